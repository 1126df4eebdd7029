import PyProof.Rows.All
import Wide.All
import OpenK.AllK
import Wide.FinOn
import HandS.ForMost
import HandS.ForExc
import PySem.Challenge.RW_selfsay_k76_whole_desk_walked
import KE.KStateDown
import HandS.More
import HandS.Defaults
import HandS.Head0
import HandS.Head1
import HandS.Head2
import HandS.HeadEnd
import HandS.HeadHook1
import HandS.HeadHook2
import HandS.HeadHook3
import HandS.HeadHook4
import HandS.HeadWalk
import HandS.ExcInit
import HandS.ExcIs
import HandS.ExcField
import HandS.ClsMeth
import HandS.Lambda
import HandS.EndTab
import HandS.Deep
import HandS.SortOrd
import HandS.SortRule
import KE.LtSeq
import KE.KSortTupAny
import HandS.SortKw
import HandS.TupAny
import HandS.Flow
import HandS.Codes
import HandS.ExcValue
import HandS.RaiseMore
import OpenK.KWalk
import HandS.Wide
import HandS.Rev
import HandS.Walk
import HandS.Zip
import HandS.RevRange
import HandS.RevTup
import HandS.Replace
import HandS.IsInst
import KE.SortKeyHeap
import KE.DataFind
import KE.SortData
import KE.KLam
set_option Elab.async false
set_option linter.all false
set_option maxRecDepth 100000
set_option maxHeartbeats 4000000
namespace SD
open PySem PySem.Spec PyProof.Rows L2
/-! # The text by places, the scopes -/
def top (i : Nat) : Stmt := PySem.Challenge.pw_selfsay_k76_whole_desk_walked.main.body.getD i (.Pass ⟨0, 0, 0, 0⟩)
abbrev s_NoSaying_init : Stmt := inClass (top 8) 0
abbrev s_HasLetter_init : Stmt := inClass (top 10) 0
abbrev s_inner_of : Stmt := top 12
abbrev s_size_of : Stmt := top 13
abbrev s_depth_of : Stmt := top 14
abbrev s_gather : Stmt := top 15
abbrev s_each_once : Stmt := top 17
abbrev s_parts_of : Stmt := top 18
abbrev s_shown_parts : Stmt := top 19
abbrev s_letters_of : Stmt := top 20
abbrev s_put : Stmt := top 21
abbrev s_unlike : Stmt := top 25
abbrev s_claim_of : Stmt := top 26
abbrev s_claim_parts : Stmt := top 27
abbrev s_claim_shown : Stmt := top 28
abbrev s_searched : Stmt := top 40
abbrev s_judged : Stmt := top 42
abbrev s_alike : Stmt := top 43
abbrev s_things_of : Stmt := top 46
abbrev s_by_kind : Stmt := top 47
abbrev s_rows_of : Stmt := top 48
abbrev s_crossed : Stmt := top 49
abbrev s_bears : Stmt := top 50
abbrev s_can_be : Stmt := top 51
abbrev s_kinds_of : Stmt := top 52
abbrev s_tried : Stmt := top 53
abbrev s_are_marks : Stmt := top 56
abbrev s_look_over : Stmt := top 57
abbrev s_all_above : Stmt := top 58
abbrev s_joined : Stmt := top 59
abbrev s_truths_in : Stmt := top 60
abbrev s_Tree_init : Stmt := inClass (top 61) 0
abbrev s_Tree_holds : Stmt := inClass (top 61) 4
abbrev s_Chain_init : Stmt := inClass (top 62) 0
abbrev s_row_of : Stmt := top 64
abbrev s_gather2 : Stmt := top 69
abbrev s_outer_parts : Stmt := top 71
abbrev s_answer : Stmt := top 74
abbrev s_written : Stmt := top 78
abbrev s_sign_at : Stmt := top 79
abbrev s_read_from : Stmt := top 80
abbrev s_read : Stmt := top 81
abbrev s_marks_of : Stmt := top 86
abbrev s_line_words : Stmt := top 87
abbrev s_signs_of : Stmt := top 88
abbrev s_Desk_init : Stmt := inClass (top 90) 0
abbrev s_Desk_say : Stmt := inClass (top 90) 1
abbrev s_Desk_changed : Stmt := inClass (top 90) 2
abbrev s_Desk_judged_line : Stmt := inClass (top 90) 3
abbrev s_law_mix : Stmt := top 93
abbrev s_law_size : Stmt := top 94
abbrev s_law_shown : Stmt := top 95
abbrev s_law_leaf : Stmt := top 96
abbrev s_law_joined : Stmt := top 97
abbrev s_law_grown : Stmt := top 98
abbrev s_law_free : Stmt := top 99
abbrev s_law_text : Stmt := top 100
abbrev s_law_ups : Stmt := top 101
abbrev s_law_worth : Stmt := top 102
abbrev s_law_put : Stmt := top 103
abbrev s_law_depth : Stmt := top 104
abbrev s_law_signs : Stmt := top 106
abbrev s_law_kind : Stmt := top 107
abbrev s_law_said : Stmt := top 108
abbrev s_law_letters : Stmt := top 109
abbrev s_law_bad : Stmt := top 110
abbrev s_law_say_line : Stmt := top 111
abbrev s_law_put_line : Stmt := top 112
abbrev s_law_chain_line : Stmt := top 113
abbrev s_law_row_line : Stmt := top 114
abbrev s_law_outside : Stmt := top 115
abbrev s_law_asked_line : Stmt := top 116
abbrev s_law : Stmt := top 117
theorem c_NoSaying_init : FnScope ["self", "place"] ["self", "place"] (defScope s_NoSaying_init) := ⟨rfl, rfl, rfl, by decide +kernel, rfl, by decide +kernel, by decide +kernel⟩
theorem c_HasLetter_init : FnScope ["self", "letter"] ["self", "letter"] (defScope s_HasLetter_init) := ⟨rfl, rfl, rfl, by decide +kernel, rfl, by decide +kernel, by decide +kernel⟩
theorem c_inner_of : FnScope ["saying"] ["saying"] (defScope s_inner_of) := ⟨rfl, rfl, rfl, by decide +kernel, rfl, by decide +kernel, by decide +kernel⟩
theorem c_size_of : FnScope ["saying", "part"] ["saying"] (defScope s_size_of) := ⟨rfl, rfl, rfl, by decide +kernel, rfl, by decide +kernel, by decide +kernel⟩
theorem c_depth_of : FnScope ["saying", "deepest", "part"] ["saying"] (defScope s_depth_of) := ⟨rfl, rfl, rfl, by decide +kernel, rfl, by decide +kernel, by decide +kernel⟩
theorem c_gather : FnScope ["saying", "found", "part"] ["saying", "found"] (defScope s_gather) := ⟨rfl, rfl, rfl, by decide +kernel, rfl, by decide +kernel, by decide +kernel⟩
theorem c_each_once : FnScope ["some", "told", "one"] ["some"] (defScope s_each_once) := ⟨rfl, rfl, rfl, by decide +kernel, rfl, by decide +kernel, by decide +kernel⟩
theorem c_parts_of : FnScope ["saying", "found"] ["saying"] (defScope s_parts_of) := ⟨rfl, rfl, rfl, by decide +kernel, rfl, by decide +kernel, by decide +kernel⟩
theorem c_shown_parts : FnScope ["saying", "part"] ["saying"] (defScope s_shown_parts) := ⟨rfl, rfl, rfl, by decide +kernel, rfl, by decide +kernel, by decide +kernel⟩
theorem c_letters_of : FnScope ["saying", "part"] ["saying"] (defScope s_letters_of) := ⟨rfl, rfl, rfl, by decide +kernel, rfl, by decide +kernel, by decide +kernel⟩
theorem c_put : FnScope ["saying", "sayings", "part"] ["saying", "sayings"] (defScope s_put) := ⟨rfl, rfl, rfl, by decide +kernel, rfl, by decide +kernel, by decide +kernel⟩
theorem c_unlike : FnScope ["sayings"] ["sayings"] (defScope s_unlike) := ⟨rfl, rfl, rfl, by decide +kernel, rfl, by decide +kernel, by decide +kernel⟩
theorem c_claim_of : FnScope ["left", "right"] ["left", "right"] (defScope s_claim_of) := ⟨rfl, rfl, rfl, by decide +kernel, rfl, by decide +kernel, by decide +kernel⟩
theorem c_claim_parts : FnScope ["claim", "found", "saying"] ["claim"] (defScope s_claim_parts) := ⟨rfl, rfl, rfl, by decide +kernel, rfl, by decide +kernel, by decide +kernel⟩
theorem c_claim_shown : FnScope ["claim", "found", "saying"] ["claim"] (defScope s_claim_shown) := ⟨rfl, rfl, rfl, by decide +kernel, rfl, by decide +kernel, by decide +kernel⟩
theorem c_searched : FnScope ["claim", "search", "number", "tree"] ["claim"] (defScope s_searched) := ⟨rfl, rfl, rfl, by decide +kernel, rfl, by decide +kernel, by decide +kernel⟩
theorem c_judged : FnScope ["saying"] ["saying"] (defScope s_judged) := ⟨rfl, rfl, rfl, by decide +kernel, rfl, by decide +kernel, by decide +kernel⟩
theorem c_alike : FnScope ["one", "other", "there", "back"] ["one", "other"] (defScope s_alike) := ⟨rfl, rfl, rfl, by decide +kernel, rfl, by decide +kernel, by decide +kernel⟩
theorem c_things_of : FnScope ["saying"] ["saying"] (defScope s_things_of) := ⟨rfl, rfl, rfl, by decide +kernel, rfl, by decide +kernel, by decide +kernel⟩
theorem c_by_kind : FnScope ["saying", "things", "kind", "word", "first"] ["saying", "things", "kind"] (defScope s_by_kind) := ⟨rfl, rfl, rfl, by decide +kernel, rfl, by decide +kernel, by decide +kernel⟩
theorem c_rows_of : FnScope ["count", "rows", "k", "row", "truth"] ["count"] (defScope s_rows_of) := ⟨rfl, rfl, rfl, by decide +kernel, rfl, by decide +kernel, by decide +kernel⟩
theorem c_crossed : FnScope ["rows", "pairs", "row"] ["rows"] (defScope s_crossed) := ⟨rfl, rfl, rfl, by decide +kernel, rfl, by decide +kernel, by decide +kernel⟩
theorem c_bears : FnScope ["room", "inner", "at", "shown", "k"] ["room", "inner", "at", "shown"] (defScope s_bears) := ⟨rfl, rfl, rfl, by decide +kernel, rfl, by decide +kernel, by decide +kernel⟩
theorem c_can_be : FnScope ["shown", "known", "at", "found", "room", "inner"] ["shown", "known"] (defScope s_can_be) := ⟨rfl, rfl, rfl, by decide +kernel, rfl, by decide +kernel, by decide +kernel⟩
theorem c_kinds_of : FnScope ["saying", "things", "parts", "marks", "rest", "found", "known", "shown", "letters", "kind", "part"] ["saying"] (defScope s_kinds_of) := ⟨rfl, rfl, rfl, by decide +kernel, rfl, by decide +kernel, by decide +kernel⟩
theorem c_tried : FnScope ["saying", "things", "kind"] ["saying"] (defScope s_tried) := ⟨rfl, rfl, rfl, by decide +kernel, rfl, by decide +kernel, by decide +kernel⟩
theorem c_are_marks : FnScope ["marks", "letter"] ["marks"] (defScope s_are_marks) := ⟨rfl, rfl, rfl, by decide +kernel, rfl, by decide +kernel, by decide +kernel⟩
theorem c_look_over : FnScope ["rooms", "k", "room", "right"] ["rooms"] (defScope s_look_over) := ⟨rfl, rfl, rfl, by decide +kernel, rfl, by decide +kernel, by decide +kernel⟩
theorem c_all_above : FnScope ["rooms", "inner", "held", "k", "below", "room"] ["rooms", "inner"] (defScope s_all_above) := ⟨rfl, rfl, rfl, by decide +kernel, rfl, by decide +kernel, by decide +kernel⟩
theorem c_joined : FnScope ["word", "ones", "others", "one", "other"] ["word", "ones", "others"] (defScope s_joined) := ⟨rfl, rfl, rfl, by decide +kernel, rfl, by decide +kernel, by decide +kernel⟩
theorem c_truths_in : FnScope ["rooms", "saying", "given", "word", "inner", "room", "truth", "below", "marks"] ["rooms", "saying", "given"] (defScope s_truths_in) := ⟨rfl, rfl, rfl, by decide +kernel, rfl, by decide +kernel, by decide +kernel⟩
theorem c_Tree_init : FnScope ["self", "rooms", "room"] ["self", "rooms"] (defScope s_Tree_init) := ⟨rfl, rfl, rfl, by decide +kernel, rfl, by decide +kernel, by decide +kernel⟩
theorem c_Tree_holds : FnScope ["self", "saying"] ["self", "saying"] (defScope s_Tree_holds) := ⟨rfl, rfl, rfl, by decide +kernel, rfl, by decide +kernel, by decide +kernel⟩
theorem c_Chain_init : FnScope ["self", "marks", "k", "one"] ["self", "marks"] (defScope s_Chain_init) := ⟨rfl, rfl, rfl, by decide +kernel, rfl, by decide +kernel, by decide +kernel⟩
theorem c_row_of : FnScope ["saying", "letters", "chain", "k"] ["saying"] (defScope s_row_of) := ⟨rfl, rfl, rfl, by decide +kernel, rfl, by decide +kernel, by decide +kernel⟩
theorem c_gather2 : FnScope ["saying", "found", "part"] ["saying", "found"] (defScope s_gather2) := ⟨rfl, rfl, rfl, by decide +kernel, rfl, by decide +kernel, by decide +kernel⟩
theorem c_outer_parts : FnScope ["saying", "found"] ["saying"] (defScope s_outer_parts) := ⟨rfl, rfl, rfl, by decide +kernel, rfl, by decide +kernel, by decide +kernel⟩
theorem c_answer : FnScope ["saying", "parts", "first", "second", "ones", "one", "other"] ["saying"] (defScope s_answer) := ⟨rfl, rfl, rfl, by decide +kernel, rfl, by decide +kernel, by decide +kernel⟩
theorem c_written : FnScope ["saying", "word"] ["saying"] (defScope s_written) := ⟨rfl, rfl, rfl, by decide +kernel, rfl, by decide +kernel, by decide +kernel⟩
theorem c_sign_at : FnScope ["text", "at", "allowed"] ["text", "at", "allowed"] (defScope s_sign_at) := ⟨rfl, rfl, rfl, by decide +kernel, rfl, by decide +kernel, by decide +kernel⟩
theorem c_read_from : FnScope ["text", "at", "sign", "word", "one", "middle", "other", "past", "part"] ["text", "at"] (defScope s_read_from) := ⟨rfl, rfl, rfl, by decide +kernel, rfl, by decide +kernel, by decide +kernel⟩
theorem c_read : FnScope ["text", "saying", "past"] ["text"] (defScope s_read) := ⟨rfl, rfl, rfl, by decide +kernel, rfl, by decide +kernel, by decide +kernel⟩
theorem c_marks_of : FnScope ["word", "last", "sign"] ["word"] (defScope s_marks_of) := ⟨rfl, rfl, rfl, by decide +kernel, rfl, by decide +kernel, by decide +kernel⟩
theorem c_line_words : FnScope ["line", "words", "word"] ["line"] (defScope s_line_words) := ⟨rfl, rfl, rfl, by decide +kernel, rfl, by decide +kernel, by decide +kernel⟩
theorem c_signs_of : FnScope ["some", "truth"] ["some"] (defScope s_signs_of) := ⟨rfl, rfl, rfl, by decide +kernel, rfl, by decide +kernel, by decide +kernel⟩
theorem c_Desk_init : FnScope ["self"] ["self"] (defScope s_Desk_init) := ⟨rfl, rfl, rfl, by decide +kernel, rfl, by decide +kernel, by decide +kernel⟩
theorem c_Desk_say : FnScope ["self", "line", "words", "told"] ["self", "line"] (defScope s_Desk_say) := ⟨rfl, rfl, rfl, by decide +kernel, rfl, by decide +kernel, by decide +kernel⟩
theorem c_Desk_changed : FnScope ["self", "letter", "saying", "made"] ["self", "letter", "saying"] (defScope s_Desk_changed) := ⟨rfl, rfl, rfl, by decide +kernel, rfl, by decide +kernel, by decide +kernel⟩
theorem c_Desk_judged_line : FnScope ["self", "words", "found", "end", "paper"] ["self", "words"] (defScope s_Desk_judged_line) := ⟨rfl, rfl, rfl, by decide +kernel, rfl, by decide +kernel, by decide +kernel⟩
theorem c_law_mix : FnScope ["_law_script", "_law_k", "_law_given", "_law_cell", "_law_turn"] ["_law_script", "_law_k"] (defScope s_law_mix) := ⟨rfl, rfl, rfl, by decide +kernel, rfl, by decide +kernel, by decide +kernel⟩
theorem c_law_size : FnScope ["_law_saying", "_law_part"] ["_law_saying"] (defScope s_law_size) := ⟨rfl, rfl, rfl, by decide +kernel, rfl, by decide +kernel, by decide +kernel⟩
theorem c_law_shown : FnScope ["_law_saying", "_law_found", "_law_part", "_law_one"] ["_law_saying"] (defScope s_law_shown) := ⟨rfl, rfl, rfl, by decide +kernel, rfl, by decide +kernel, by decide +kernel⟩
theorem c_law_leaf : FnScope ["_law_cell", "_law_letters_here"] ["_law_cell", "_law_letters_here"] (defScope s_law_leaf) := ⟨rfl, rfl, rfl, by decide +kernel, rfl, by decide +kernel, by decide +kernel⟩
theorem c_law_joined : FnScope ["_law_made", "_law_other", "_law_word"] ["_law_made", "_law_other", "_law_word"] (defScope s_law_joined) := ⟨rfl, rfl, rfl, by decide +kernel, rfl, by decide +kernel, by decide +kernel⟩
theorem c_law_grown : FnScope ["_law_script", "_law_at", "_law_many", "_law_most", "_law_letters_here", "_law_made", "_law_k", "_law_cell", "_law_other", "_law_further"] ["_law_script", "_law_at", "_law_many", "_law_most", "_law_letters_here"] (defScope s_law_grown) := ⟨rfl, rfl, rfl, by decide +kernel, rfl, by decide +kernel, by decide +kernel⟩
theorem c_law_free : FnScope ["_law_cell", "_law_left", "_law_kind_here", "_law_leaves", "_law_one", "_law_used", "_law_other", "_law_more"] ["_law_cell", "_law_left"] (defScope s_law_free) := ⟨rfl, rfl, rfl, by decide +kernel, rfl, by decide +kernel, by decide +kernel⟩
theorem c_law_text : FnScope ["_law_saying", "_law_word", "_law_sign"] ["_law_saying"] (defScope s_law_text) := ⟨rfl, rfl, rfl, by decide +kernel, rfl, by decide +kernel, by decide +kernel⟩
theorem c_law_ups : FnScope ["_law_rooms", "_law_ups_here", "_law_k", "_law_below", "_law_room"] ["_law_rooms"] (defScope s_law_ups) := ⟨rfl, rfl, rfl, by decide +kernel, rfl, by decide +kernel, by decide +kernel⟩
theorem c_law_worth : FnScope ["_law_rooms", "_law_ups_here", "_law_saying", "_law_word", "_law_one", "_law_other", "_law_room", "_law_truth", "_law_up", "_law_a", "_law_b", "_law_j"] ["_law_rooms", "_law_ups_here", "_law_saying"] (defScope s_law_worth) := ⟨rfl, rfl, rfl, by decide +kernel, rfl, by decide +kernel, by decide +kernel⟩
theorem c_law_put : FnScope ["_law_saying", "_law_letter", "_law_other", "_law_part"] ["_law_saying", "_law_letter", "_law_other"] (defScope s_law_put) := ⟨rfl, rfl, rfl, by decide +kernel, rfl, by decide +kernel, by decide +kernel⟩
theorem c_law_depth : FnScope ["_law_saying", "_law_part"] ["_law_saying"] (defScope s_law_depth) := ⟨rfl, rfl, rfl, by decide +kernel, rfl, by decide +kernel, by decide +kernel⟩
theorem c_law_signs : FnScope ["_law_truths", "_law_truth"] ["_law_truths"] (defScope s_law_signs) := ⟨rfl, rfl, rfl, by decide +kernel, rfl, by decide +kernel, by decide +kernel⟩
theorem c_law_kind : FnScope ["_law_caught", "_law_told"] ["_law_caught"] (defScope s_law_kind) := ⟨rfl, rfl, rfl, by decide +kernel, rfl, by decide +kernel, by decide +kernel⟩
theorem c_law_said : FnScope ["_law_desk", "_law_line", "_law_caught", "_law_found", "e"] ["_law_desk", "_law_line"] (defScope s_law_said) := ⟨rfl, rfl, rfl, by decide +kernel, rfl, by decide +kernel, by decide +kernel⟩
theorem c_law_letters : FnScope ["_law_saying", "_law_letter"] ["_law_saying"] (defScope s_law_letters) := ⟨rfl, rfl, rfl, by decide +kernel, rfl, by decide +kernel, by decide +kernel⟩
theorem c_law_bad : FnScope ["_law_cell", "_law_bad_here"] ["_law_cell"] (defScope s_law_bad) := ⟨rfl, rfl, rfl, by decide +kernel, rfl, by decide +kernel, by decide +kernel⟩
theorem c_law_say_line : FnScope ["_law_state", "_law_script", "_law_k", "_law_cell", "_law_letters_here", "_law_saying", "_law_text_here", "_law_place"] ["_law_state", "_law_script", "_law_k", "_law_cell"] (defScope s_law_say_line) := ⟨rfl, rfl, rfl, by decide +kernel, rfl, by decide +kernel, by decide +kernel⟩
theorem c_law_put_line : FnScope ["_law_state", "_law_script", "_law_k", "_law_cell", "_law_letter", "_law_other", "_law_made", "_law_line", "_law_step", "_law_text_here", "_law_place"] ["_law_state", "_law_script", "_law_k", "_law_cell"] (defScope s_law_put_line) := ⟨rfl, rfl, rfl, by decide +kernel, rfl, by decide +kernel, by decide +kernel⟩
theorem c_law_chain_line : FnScope ["_law_state", "_law_cell", "_law_marks", "_law_k", "_law_rooms", "_law_worth_here", "_law_one", "_law_j"] ["_law_state", "_law_cell"] (defScope s_law_chain_line) := ⟨rfl, rfl, rfl, by decide +kernel, rfl, by decide +kernel, by decide +kernel⟩
theorem c_law_row_line : FnScope ["_law_state", "_law_letters_here", "_law_rooms", "_law_worth_here", "_law_k"] ["_law_state"] (defScope s_law_row_line) := ⟨rfl, rfl, rfl, by decide +kernel, rfl, by decide +kernel, by decide +kernel⟩
theorem c_law_outside : FnScope ["_law_saying", "_law_part"] ["_law_saying"] (defScope s_law_outside) := ⟨rfl, rfl, rfl, by decide +kernel, rfl, by decide +kernel, by decide +kernel⟩
theorem c_law_asked_line : FnScope ["_law_state", "_law_kind_here", "_law_saying", "_law_many", "_law_other"] ["_law_state", "_law_kind_here"] (defScope s_law_asked_line) := ⟨rfl, rfl, rfl, by decide +kernel, rfl, by decide +kernel, by decide +kernel⟩
theorem c_law : FnScope ["_law_script", "_law_state", "_law_desk", "_law_k", "_law_cell", "_law_mixed", "_law_said_here", "_law_line", "_law_due"] ["_law_script"] (defScope s_law) := ⟨rfl, rfl, rfl, by decide +kernel, rfl, by decide +kernel, by decide +kernel⟩
end SD
section HDS
set_option maxHeartbeats 0
noncomputable section
namespace SD
open PySem PySem.Spec PyProof.Rows L2
/-! # The head: facts by names, the run -/
/-! ### own Hook: the objects that the module's names reach, in one sweep -/
def codeR (g : Addr → Option Obj) (f : Addr) : List Addr := match g f with
  | some ⟨_, _, .func fd, _⟩ => He.refV fd.code
  | _ => []
def expF (g : Addr → Option Obj) (a : Addr) : List Addr := match g a with
  | some ⟨_, _, .func fd, _⟩ => a :: He.refV fd.code
  | some ⟨_, _, .cls cd, _⟩ => a :: cd.ns :: (match g cd.ns with
    | some ⟨_, _, .dict es _, _⟩ => es.toList.flatMap fun e => (match e.val with
      | .ref f => f :: codeR g f
      | _ => [])
    | _ => [])
  | some _ => [a]
  | none => []
def asF (g : Addr → Option Obj) : List Addr := mainGlobals :: cStatics :: (match g mainGlobals with
  | some ⟨_, _, .dict es _, _⟩ => es.toList.flatMap fun e => (match e.val with
    | .ref a => expF g a
    | _ => [])
  | _ => [])
/-- the list is made first -/
def frList {α : Type} : PySem.W.Frag → (PySem.W.Frag → α) → α
  | [], k => k []
  | (a, o) :: r, k => HandSHeadRun.frNat a fun a => frList r fun r => k ((a, o) :: r)
theorem frList_eq {α : Type} : ∀ (l : PySem.W.Frag) (k : PySem.W.Frag → α), frList l k = k l
  | [], k => rfl
  | (a, o) :: r, k => by
    show (HandSHeadRun.frNat a fun a => frList r fun r => k ((a, o) :: r)) = _
    rw [HandSHeadRun.frNat_eq, frList_eq r]
def obsY (fa : List He.Fa) (fn : List He.DefD) (ts : List He.Tab) (tf : List He.Defn) (ex : PySem.W.Frag → Bool) (g : Addr → Option Obj) : He.AlX := frList (He.frT g (asF g)) fun K => (He.obsT fa fn ts K, ex K && He.tabsB g tf K)
theorem saysY_of {fa : List He.Fa} {fn : List He.DefD} {ts : List He.Tab} {tf : List He.Defn} {ex : PySem.W.Frag → Bool} {w : World} {h : Heap} (e : obsY fa fn ts tf ex h.get? = He.valX fn ts w) : He.SaysX fa fn ts tf ex w h (He.frT h.get? (asF h.get?)) := by
  unfold obsY at e
  rw [frList_eq] at e
  have e1 : He.obsT fa fn ts (He.frT h.get? (asF h.get?)) = He.valT fn ts w := congrArg (fun z : He.AlX => z.1) e
  have e2 : (ex (He.frT h.get? (asF h.get?)) && He.tabsB h.get? tf (He.frT h.get? (asF h.get?))) = true := congrArg (fun z : He.AlX => z.2) e
  obtain ⟨h1, h2⟩ := He.ba e2
  have key : ∀ p ∈ tf, PySem.W.codeHdIn (He.frT h.get? (asF h.get?)) (He.cT (He.frT h.get? (asF h.get?)) p).1 (He.cT (He.frT h.get? (asF h.get?)) p).2 = true ∧ ∃ o, h.get? (He.cT (He.frT h.get? (asF h.get?)) p).2 = some o ∧ He.emptyTab o = true := fun p hp => by
    obtain ⟨h3, h4⟩ := He.ba (List.all_eq_true.mp h2 p hp)
    refine ⟨h3, ?_⟩
    cases q : h.get? (He.cT (He.frT h.get? (asF h.get?)) p).2 with
    | none => rw [q] at h4; cases h4
    | some o => rw [q] at h4; exact ⟨o, rfl, h4⟩
  exact ⟨e1, h1, fun p hp => (key p hp).1, fun p hp => by obtain ⟨_, o, q, z⟩ := key p hp; exact He.frT_none q z, fun p hp => by obtain ⟨_, o, q, z⟩ := key p hp; rw [q, He.emptyTab_eq z]⟩
def hookY (fa : List He.Fa) (fn : List He.DefD) (ts : List He.Tab) (tf : List He.Defn) (ex : PySem.W.Frag → Bool) : PySem.W.Hook where
  α := He.AlX
  obs := fun s => obsY fa fn ts tf ex s.heap.get?
  val := fun w => He.valX fn ts w
  says := fun w h => ∃ K : PySem.W.Frag, K.In h ∧ He.SaysX fa fn ts tf ex w h K
  of := fun _ _ e => ⟨_, He.frT_in, saysY_of e⟩
  keeps := fun _ _ _ ⟨K, hK, c⟩ k => ⟨K, PySem.W.Frag.In.keeps hK k, ⟨c.t, c.more, c.hd, c.out, fun p hp => k _ _ (c.empty p hp)⟩⟩
theorem obsY_eq {fa : List He.Fa} {fn : List He.DefD} {ts : List He.Tab} {tf : List He.Defn} {ex : PySem.W.Frag → Bool} {g : Addr → Option Obj} {s : Shared} (h : ∀ a, g a = s.heap.get? a) : obsY fa fn ts tf ex g = (hookY fa fn ts tf ex).obs s := by
  have e : g = s.heap.get? := funext h
  rw [e] <;> rfl
/-- an own exception class over ValueError's chain -/
def oexB (K : PySem.W.Frag) (C : Addr) : Bool := (match K.lookup C with
  | some ⟨.type "type", _, .cls cd, sl⟩ => (match cd.mro, sl.toList with
    | .ref C' :: bm, [_, _, _, _, some (.builtin n), _] => C' == C && (n == "ValueError.__new__" && (!cd.hasDel && (cd.hasDict && PySem.HandSPX.refsVE bm)))
    | _, _ => false)
  | _ => false) && (He.eqO (PySem.W.findIn K (.ref C) "__setattr__") (some (some (.builtin "object.__setattr__"))) && (decide (PySem.W.subIn K (.ref C) (.type "BaseException") = some true) && (decide (PySem.W.typeIn K (.ref C) = some (.type "type")) && PySem.W.keepIn K (.ref C))))
/-- what isinstance and a field's read ask of an exception's class -/
def excB (K : PySem.W.Frag) (C : Addr) : Bool := He.eqO (PySem.W.findIn K (.ref C) "__getattribute__") (some (some (.builtin "BaseException.__getattribute__"))) && (He.eqO (PySem.W.findIn K (.ref C) "__getattr__") (some none) && (decide (PySem.W.subIn K (.ref C) (.type "BaseException") = some true) && (PySem.W.hasDictIn K C && (
  He.eqO (PySem.W.findIn K (.ref C) "__class__") (some (some (.builtin "object.__class__"))) && (He.eqO (PySem.W.specialIn K (.builtin "object.__class__") "__get__") (some (some (.builtin "getset_descriptor.__get__"))) && (decide (PySem.W.takesIn K (.builtin "object.__class__") = some true) && decide (PySem.W.mroIn K C (.type "object") = some true)))))))
def initB (K : PySem.W.Frag) (x f : Str) : Bool := He.eqO (PySem.W.findIn K (.ref (He.ga K x)) "__init__") (some (some (.ref (He.ma K (He.ga K x) "__init__")))) && (decide (PySem.W.typeIn K (.ref (He.ma K (He.ga K x) "__init__")) = some (.type "function")) && He.eqO (PySem.W.findIn K (.ref (He.ga K x)) f) (some none))
def valB (K : PySem.W.Frag) (C : Addr) (m : Str) (u : Value) : Bool := PySem.W.readsIn K C (.type "type") && (He.eqO (PySem.W.specialIn K (.ref C) "__getattribute__") (some (some (.builtin "type.__getattribute__"))) && (match PySem.W.findCls K (.ref C) (.type "type") m with
  | some (.val v) => decide (v = u)
  | _ => false))
def kitB (K : PySem.W.Frag) (x y : Str) : Bool := decide (PySem.W.kitOne K (.ref (He.ga K x)) (.ref (He.ga K y)) = some (decide (x = y)))
def raisedX : List Str := ["TooMany", "Outside", "Nothing", "NoSaying", "HasLetter"]
def askedX : List Str := ["NoLine", "Nothing", "NoSaying", "HasLetter", "TooMany", "Outside", "NoRule", "NoTree"]
def ex (K : PySem.W.Frag) : Bool := (oexB K (He.ga K "NoSaying") && oexB K (He.ga K "HasLetter")) && ((initB K "NoSaying" "place" && initB K "HasLetter" "letter") && ((raisedX.all fun x => excB K (He.ga K x)) && ((raisedX.all fun x => askedX.all fun y => kitB K x y) && ((raisedX.all fun x => decide (PySem.W.kitOne K (.ref (He.ga K x)) (.type "ValueError") = some true)) && (
  (valB K (He.ga K "SayError") "__init__" (.builtin "ValueError.__init__") && valB K (He.ga K "Tree") "__init__" (.ref (He.ma K (He.ga K "Tree") "__init__"))) && ((PySem.W.fnIn K (He.ma K (He.ga K "Tree") "__init__") && PySem.W.keepIn K (.ref (He.ma K (He.ga K "Tree") "__init__"))) && (
  He.valsB K (He.ga K "SIGNS") [("and", .str "&"), ("or", .str "|"), ("if", .str ">")] && (He.valsB K (He.ga K "WORDS_texts") [("&", .str "and"), ("|", .str "or"), (">", .str "if")] &&
  He.valsB K (He.ga K "WORDS_desk") [("say", .int 2), ("put", .int 3), ("judge", .int 1), ("alike", .int 2), ("row", .int 1), ("self", .int 1), ("kinds", .int 1)]))))))))
def ts : List He.Tab := [(fun K => He.ga K "SIGNS", ["and", "or", "if"]), (fun K => He.ga K "WORDS_texts", ["&", "|", ">"]), (fun K => He.ga K "WORDS_desk", ["say", "put", "judge", "alike", "row", "self", "kinds"])]
def tf : List He.Defn := [("kinds_of", none)]
def d_NoSaying_init : He.DefD := ⟨("NoSaying", some "__init__"), "__init__", "NoSaying.__init__", defArgs s_NoSaying_init, defBody s_NoSaying_init, defScope s_NoSaying_init, [], []⟩
def d_HasLetter_init : He.DefD := ⟨("HasLetter", some "__init__"), "__init__", "HasLetter.__init__", defArgs s_HasLetter_init, defBody s_HasLetter_init, defScope s_HasLetter_init, [], []⟩
def d_inner_of : He.DefD := ⟨("inner_of", none), "inner_of", "inner_of", defArgs s_inner_of, defBody s_inner_of, defScope s_inner_of, [], []⟩
def d_size_of : He.DefD := ⟨("size_of", none), "size_of", "size_of", defArgs s_size_of, defBody s_size_of, defScope s_size_of, [], []⟩
def d_depth_of : He.DefD := ⟨("depth_of", none), "depth_of", "depth_of", defArgs s_depth_of, defBody s_depth_of, defScope s_depth_of, [], []⟩
def d_gather : He.DefD := ⟨("gather_sayings", none), "gather", "gather", defArgs s_gather, defBody s_gather, defScope s_gather, [], []⟩
def d_each_once : He.DefD := ⟨("each_once", none), "each_once", "each_once", defArgs s_each_once, defBody s_each_once, defScope s_each_once, [], []⟩
def d_parts_of : He.DefD := ⟨("parts_of", none), "parts_of", "parts_of", defArgs s_parts_of, defBody s_parts_of, defScope s_parts_of, [], []⟩
def d_shown_parts : He.DefD := ⟨("shown_parts", none), "shown_parts", "shown_parts", defArgs s_shown_parts, defBody s_shown_parts, defScope s_shown_parts, [], []⟩
def d_letters_of : He.DefD := ⟨("letters_of", none), "letters_of", "letters_of", defArgs s_letters_of, defBody s_letters_of, defScope s_letters_of, [], []⟩
def d_put : He.DefD := ⟨("put", none), "put", "put", defArgs s_put, defBody s_put, defScope s_put, [], []⟩
def d_unlike : He.DefD := ⟨("unlike", none), "unlike", "unlike", defArgs s_unlike, defBody s_unlike, defScope s_unlike, [], []⟩
def d_claim_of : He.DefD := ⟨("claim_of", none), "claim_of", "claim_of", defArgs s_claim_of, defBody s_claim_of, defScope s_claim_of, [], []⟩
def d_claim_parts : He.DefD := ⟨("claim_parts", none), "claim_parts", "claim_parts", defArgs s_claim_parts, defBody s_claim_parts, defScope s_claim_parts, [], []⟩
def d_claim_shown : He.DefD := ⟨("claim_shown", none), "claim_shown", "claim_shown", defArgs s_claim_shown, defBody s_claim_shown, defScope s_claim_shown, [], []⟩
def d_searched : He.DefD := ⟨("searched", none), "searched", "searched", defArgs s_searched, defBody s_searched, defScope s_searched, [], []⟩
def d_judged : He.DefD := ⟨("judged", none), "judged", "judged", defArgs s_judged, defBody s_judged, defScope s_judged, [], []⟩
def d_alike : He.DefD := ⟨("alike", none), "alike", "alike", defArgs s_alike, defBody s_alike, defScope s_alike, [], []⟩
def d_things_of : He.DefD := ⟨("things_of", none), "things_of", "things_of", defArgs s_things_of, defBody s_things_of, defScope s_things_of, [], []⟩
def d_by_kind : He.DefD := ⟨("by_kind", none), "by_kind", "by_kind", defArgs s_by_kind, defBody s_by_kind, defScope s_by_kind, [], []⟩
def d_rows_of : He.DefD := ⟨("rows_of", none), "rows_of", "rows_of", defArgs s_rows_of, defBody s_rows_of, defScope s_rows_of, [], []⟩
def d_crossed : He.DefD := ⟨("crossed", none), "crossed", "crossed", defArgs s_crossed, defBody s_crossed, defScope s_crossed, [], []⟩
def d_bears : He.DefD := ⟨("bears", none), "bears", "bears", defArgs s_bears, defBody s_bears, defScope s_bears, [], []⟩
def d_can_be : He.DefD := ⟨("can_be", none), "can_be", "can_be", defArgs s_can_be, defBody s_can_be, defScope s_can_be, [], []⟩
def d_kinds_of : He.DefD := ⟨("kinds_of", none), "kinds_of", "kinds_of", defArgs s_kinds_of, defBody s_kinds_of, defScope s_kinds_of, [], []⟩
def d_tried : He.DefD := ⟨("tried", none), "tried", "tried", defArgs s_tried, defBody s_tried, defScope s_tried, [], []⟩
def d_are_marks : He.DefD := ⟨("are_marks", none), "are_marks", "are_marks", defArgs s_are_marks, defBody s_are_marks, defScope s_are_marks, [], []⟩
def d_look_over : He.DefD := ⟨("look_over", none), "look_over", "look_over", defArgs s_look_over, defBody s_look_over, defScope s_look_over, [], []⟩
def d_all_above : He.DefD := ⟨("all_above", none), "all_above", "all_above", defArgs s_all_above, defBody s_all_above, defScope s_all_above, [], []⟩
def d_joined : He.DefD := ⟨("joined", none), "joined", "joined", defArgs s_joined, defBody s_joined, defScope s_joined, [], []⟩
def d_truths_in : He.DefD := ⟨("truths_in", none), "truths_in", "truths_in", defArgs s_truths_in, defBody s_truths_in, defScope s_truths_in, [], []⟩
def d_Tree_init : He.DefD := ⟨("Tree", some "__init__"), "__init__", "Tree.__init__", defArgs s_Tree_init, defBody s_Tree_init, defScope s_Tree_init, [], []⟩
def d_Tree_holds : He.DefD := ⟨("Chain", some "holds"), "holds", "Tree.holds", defArgs s_Tree_holds, defBody s_Tree_holds, defScope s_Tree_holds, [], []⟩
def d_Chain_init : He.DefD := ⟨("Chain", some "__init__"), "__init__", "Chain.__init__", defArgs s_Chain_init, defBody s_Chain_init, defScope s_Chain_init, [], []⟩
def d_row_of : He.DefD := ⟨("row_of", none), "row_of", "row_of", defArgs s_row_of, defBody s_row_of, defScope s_row_of, [], []⟩
def d_gather2 : He.DefD := ⟨("gather_selves", none), "gather", "gather", defArgs s_gather2, defBody s_gather2, defScope s_gather2, [], []⟩
def d_outer_parts : He.DefD := ⟨("outer_parts", none), "outer_parts", "outer_parts", defArgs s_outer_parts, defBody s_outer_parts, defScope s_outer_parts, [], []⟩
def d_answer : He.DefD := ⟨("answer", none), "answer", "answer", defArgs s_answer, defBody s_answer, defScope s_answer, [], []⟩
def d_written : He.DefD := ⟨("written", none), "written", "written", defArgs s_written, defBody s_written, defScope s_written, [], []⟩
def d_sign_at : He.DefD := ⟨("sign_at", none), "sign_at", "sign_at", defArgs s_sign_at, defBody s_sign_at, defScope s_sign_at, [], []⟩
def d_read_from : He.DefD := ⟨("read_from", none), "read_from", "read_from", defArgs s_read_from, defBody s_read_from, defScope s_read_from, [], []⟩
def d_read : He.DefD := ⟨("read", none), "read", "read", defArgs s_read, defBody s_read, defScope s_read, [], []⟩
def d_marks_of : He.DefD := ⟨("marks_of", none), "marks_of", "marks_of", defArgs s_marks_of, defBody s_marks_of, defScope s_marks_of, [], []⟩
def d_line_words : He.DefD := ⟨("line_words", none), "line_words", "line_words", defArgs s_line_words, defBody s_line_words, defScope s_line_words, [], []⟩
def d_signs_of : He.DefD := ⟨("signs_of", none), "signs_of", "signs_of", defArgs s_signs_of, defBody s_signs_of, defScope s_signs_of, [], []⟩
def d_Desk_init : He.DefD := ⟨("Desk", some "__init__"), "__init__", "Desk.__init__", defArgs s_Desk_init, defBody s_Desk_init, defScope s_Desk_init, [], []⟩
def d_Desk_say : He.DefD := ⟨("Desk", some "say"), "say", "Desk.say", defArgs s_Desk_say, defBody s_Desk_say, defScope s_Desk_say, [], []⟩
def d_Desk_changed : He.DefD := ⟨("Desk", some "changed"), "changed", "Desk.changed", defArgs s_Desk_changed, defBody s_Desk_changed, defScope s_Desk_changed, [], []⟩
def d_Desk_judged_line : He.DefD := ⟨("Desk", some "judged_line"), "judged_line", "Desk.judged_line", defArgs s_Desk_judged_line, defBody s_Desk_judged_line, defScope s_Desk_judged_line, [], []⟩
def d_law_mix : He.DefD := ⟨("_law_mix", none), "_law_mix", "_law_mix", defArgs s_law_mix, defBody s_law_mix, defScope s_law_mix, [], []⟩
def d_law_size : He.DefD := ⟨("_law_size", none), "_law_size", "_law_size", defArgs s_law_size, defBody s_law_size, defScope s_law_size, [], []⟩
def d_law_shown : He.DefD := ⟨("_law_shown", none), "_law_shown", "_law_shown", defArgs s_law_shown, defBody s_law_shown, defScope s_law_shown, [], []⟩
def d_law_leaf : He.DefD := ⟨("_law_leaf", none), "_law_leaf", "_law_leaf", defArgs s_law_leaf, defBody s_law_leaf, defScope s_law_leaf, [], []⟩
def d_law_joined : He.DefD := ⟨("_law_joined", none), "_law_joined", "_law_joined", defArgs s_law_joined, defBody s_law_joined, defScope s_law_joined, [], []⟩
def d_law_grown : He.DefD := ⟨("_law_grown", none), "_law_grown", "_law_grown", defArgs s_law_grown, defBody s_law_grown, defScope s_law_grown, [], []⟩
def d_law_free : He.DefD := ⟨("_law_free", none), "_law_free", "_law_free", defArgs s_law_free, defBody s_law_free, defScope s_law_free, [], []⟩
def d_law_text : He.DefD := ⟨("_law_text", none), "_law_text", "_law_text", defArgs s_law_text, defBody s_law_text, defScope s_law_text, [], []⟩
def d_law_ups : He.DefD := ⟨("_law_ups", none), "_law_ups", "_law_ups", defArgs s_law_ups, defBody s_law_ups, defScope s_law_ups, [], []⟩
def d_law_worth : He.DefD := ⟨("_law_worth", none), "_law_worth", "_law_worth", defArgs s_law_worth, defBody s_law_worth, defScope s_law_worth, [], []⟩
def d_law_put : He.DefD := ⟨("_law_put", none), "_law_put", "_law_put", defArgs s_law_put, defBody s_law_put, defScope s_law_put, [], []⟩
def d_law_depth : He.DefD := ⟨("_law_depth", none), "_law_depth", "_law_depth", defArgs s_law_depth, defBody s_law_depth, defScope s_law_depth, [], []⟩
def d_law_signs : He.DefD := ⟨("_law_signs", none), "_law_signs", "_law_signs", defArgs s_law_signs, defBody s_law_signs, defScope s_law_signs, [], []⟩
def d_law_kind : He.DefD := ⟨("_law_kind", none), "_law_kind", "_law_kind", defArgs s_law_kind, defBody s_law_kind, defScope s_law_kind, [], []⟩
def d_law_said : He.DefD := ⟨("_law_said", none), "_law_said", "_law_said", defArgs s_law_said, defBody s_law_said, defScope s_law_said, [], []⟩
def d_law_letters : He.DefD := ⟨("_law_letters", none), "_law_letters", "_law_letters", defArgs s_law_letters, defBody s_law_letters, defScope s_law_letters, [], []⟩
def d_law_bad : He.DefD := ⟨("_law_bad", none), "_law_bad", "_law_bad", defArgs s_law_bad, defBody s_law_bad, defScope s_law_bad, [], []⟩
def d_law_say_line : He.DefD := ⟨("_law_say_line", none), "_law_say_line", "_law_say_line", defArgs s_law_say_line, defBody s_law_say_line, defScope s_law_say_line, [], []⟩
def d_law_put_line : He.DefD := ⟨("_law_put_line", none), "_law_put_line", "_law_put_line", defArgs s_law_put_line, defBody s_law_put_line, defScope s_law_put_line, [], []⟩
def d_law_chain_line : He.DefD := ⟨("_law_chain_line", none), "_law_chain_line", "_law_chain_line", defArgs s_law_chain_line, defBody s_law_chain_line, defScope s_law_chain_line, [], []⟩
def d_law_row_line : He.DefD := ⟨("_law_row_line", none), "_law_row_line", "_law_row_line", defArgs s_law_row_line, defBody s_law_row_line, defScope s_law_row_line, [], []⟩
def d_law_outside : He.DefD := ⟨("_law_outside", none), "_law_outside", "_law_outside", defArgs s_law_outside, defBody s_law_outside, defScope s_law_outside, [], []⟩
def d_law_asked_line : He.DefD := ⟨("_law_asked_line", none), "_law_asked_line", "_law_asked_line", defArgs s_law_asked_line, defBody s_law_asked_line, defScope s_law_asked_line, [], []⟩
def d_law : He.DefD := ⟨("law", none), "law", "law", defArgs s_law, defBody s_law, defScope s_law, [], []⟩
def fn0 : List He.DefD := [d_NoSaying_init, d_HasLetter_init, d_inner_of, d_size_of, d_depth_of, d_gather, d_each_once, d_parts_of, d_shown_parts, d_letters_of, d_put, d_unlike]
def fn1 : List He.DefD := [d_claim_of, d_claim_parts, d_claim_shown, d_searched, d_judged, d_alike, d_things_of, d_by_kind, d_rows_of, d_crossed, d_bears, d_can_be]
def fn2 : List He.DefD := [d_kinds_of, d_tried, d_are_marks, d_look_over, d_all_above, d_joined, d_truths_in, d_Tree_init, d_Tree_holds, d_Chain_init, d_row_of, d_gather2]
def fn3 : List He.DefD := [d_outer_parts, d_answer, d_written, d_sign_at, d_read_from, d_read, d_marks_of, d_line_words, d_signs_of, d_Desk_init, d_Desk_say, d_Desk_changed]
def fn4 : List He.DefD := [d_Desk_judged_line, d_law_mix, d_law_size, d_law_shown, d_law_leaf, d_law_joined, d_law_grown, d_law_free, d_law_text, d_law_ups, d_law_worth, d_law_put]
def fn5 : List He.DefD := [d_law_depth, d_law_signs, d_law_kind, d_law_said, d_law_letters, d_law_bad, d_law_say_line, d_law_put_line, d_law_chain_line, d_law_row_line, d_law_outside, d_law_asked_line]
def fn6 : List He.DefD := [d_law]
def fn : List He.DefD := List.flatten [fn0, fn1, fn2, fn3, fn4, fn5, fn6]
def fa0 : List He.Fa := [.glo "inner_of", .glo "size_of", .glo "depth_of", .glo "gather_sayings", .glo "each_once", .glo "parts_of", .glo "shown_parts", .glo "letters_of", .glo "put", .glo "unlike", .glo "claim_of", .glo "claim_parts"]
def fa1 : List He.Fa := [.glo "claim_shown", .glo "searched", .glo "judged", .glo "alike", .glo "things_of", .glo "by_kind", .glo "rows_of", .glo "crossed", .glo "bears", .glo "can_be", .glo "kinds_of", .glo "tried"]
def fa2 : List He.Fa := [.glo "are_marks", .glo "look_over", .glo "all_above", .glo "joined", .glo "truths_in", .glo "row_of", .glo "gather_selves", .glo "outer_parts", .glo "answer", .glo "written", .glo "sign_at", .glo "read_from"]
def fa3 : List He.Fa := [.glo "read", .glo "marks_of", .glo "line_words", .glo "signs_of", .glo "_law_mix", .glo "_law_size", .glo "_law_shown", .glo "_law_leaf", .glo "_law_joined", .glo "_law_grown", .glo "_law_free", .glo "_law_text"]
def fa4 : List He.Fa := [.glo "_law_ups", .glo "_law_worth", .glo "_law_put", .glo "_law_depth", .glo "_law_signs", .glo "_law_kind", .glo "_law_said", .glo "_law_letters", .glo "_law_bad", .glo "_law_say_line", .glo "_law_put_line", .glo "_law_chain_line"]
def fa5 : List He.Fa := [.glo "_law_row_line", .glo "_law_outside", .glo "_law_asked_line", .glo "law", .glo "SayError", .glo "TooMany", .glo "NoRule", .glo "Outside", .glo "NoLine", .glo "Nothing", .glo "NoSaying", .glo "NoTree"]
def fa6 : List He.Fa := [.glo "HasLetter", .glo "Tree", .glo "Chain", .glo "Desk", .glo "SIGNS", .glo "WORDS_texts", .glo "WORDS_desk", .free "len", .free "sum", .free "max", .free "min", .free "list"]
def fa7 : List He.Fa := [.free "tuple", .free "sorted", .free "reversed", .free "range", .free "enumerate", .free "zip", .free "all", .free "any", .free "int", .free "str", .free "isinstance", .free "ValueError"]
def fa8 : List He.Fa := [.int "MOST_PARTS_searching" 40, .int "MOST_SHOWN_searching" 6, .int "MOST_SHOWN_kinds" 5, .int "MOST_PARTS_selves" 10, .int "MOST_OUTER" 2, .int "MOST_PARTS_desk" 120, .str "LETTERS_trees" "pqr", .str "LETTERS_desk" "pqr", .str "LETTER" "p", .cls "Chain", .cls "Desk", .noat "Chain" "kept"]
def fa9 : List He.Fa := [.noat "Desk" "kept", .meth "Chain" "holds", .meth "Desk" "say", .meth "Desk" "changed", .meth "Desk" "judged_line", .mkr "Chain", .mkr "Desk", .exc "TooMany", .exc "Outside", .exc "Nothing", .exm "TooMany" "SayError" true, .exm "Outside" "SayError" true]
def fa10 : List He.Fa := [.exm "Nothing" "SayError" true, .exm "NoSaying" "SayError" true, .exm "HasLetter" "SayError" true, .keep "SayError", .keep "NoSaying", .keep "HasLetter", .keep "Tree", .keep "Chain", .keep "Desk"]
def fa : List He.Fa := List.flatten [fa0, fa1, fa2, fa3, fa4, fa5, fa6, fa7, fa8, fa9, fa10]
abbrev RR : PySem.W.OpenRow := PySem.W.OpenLaw.row PySem.Challenge.rw_selfsay_k76_whole_desk_walked
abbrev hkX : PySem.W.Hook := hookY fa fn ts tf ex
def obX (s : PySem.W.SharedT) : He.AlX := obsY fa fn ts tf ex (HandSHeadRun.getT s)
theorem obX_eq (s : PySem.W.SharedT) : obX s = hkX.obs s.abs := obsY_eq (HandSHeadRun.getT_eq s)
/-- the names of the top that the walk does not see -/
def looseA : List Str := (["_wall", "SayError", "TooMany", "NoRule", "Outside", "NoLine", "Nothing", "NoSaying", "NoTree", "HasLetter", "inner_of", "size_of", "depth_of", "gather", "gather_sayings", "each_once", "parts_of", "shown_parts"] : List Str) ++ (["letters_of", "put", "yes", "NEVER", "unlike", "claim_of", "claim_parts", "claim_shown", "without", "from_left", "from_right", "further_up", "needed", "MOST_PARTS_searching", "MOST_SHOWN_searching", "BROKEN", "Search"] : List Str)
def looseB : List Str := (["rooms_of", "searched", "judged", "alike", "MOST_SHOWN_kinds", "things_of", "by_kind", "rows_of", "crossed", "bears", "can_be", "kinds_of", "tried", "LETTERS_trees", "are_marks", "look_over", "all_above", "joined"] : List Str) ++ (["truths_in", "Tree", "Chain", "row_of", "LETTER", "MOST_PARTS_selves", "MOST_OUTER", "gather_selves", "outer_parts", "exchanged", "with_one", "answer", "SIGNS", "WORDS_texts", "written", "sign_at", "read_from"] : List Str)
def looseC : List Str := (["read", "LETTERS_desk", "WORDS_desk", "MOST_PARTS_desk", "marks_of", "line_words", "signs_of", "rooms_text", "Desk", "_law_cell_at", "_law_mix", "_law_size", "_law_shown", "_law_leaf", "_law_joined", "_law_grown", "_law_free", "_law_text"] : List Str) ++ (["_law_ups", "_law_worth", "_law_put", "_law_depth", "_law_heights", "_law_signs", "_law_kind", "_law_said", "_law_letters", "_law_bad", "_law_say_line", "_law_put_line", "_law_chain_line", "_law_row_line", "_law_outside", "_law_asked_line"] : List Str)
abbrev loose : List Str := looseA ++ (looseB ++ looseC)
abbrev QQ : Program := PySem.W.view RR.prog [117]
open PySem.W HandSHeadRun in
theorem rA0 (w : World) (os : OsState) : (endF (stepQ (denQ tabQ) RR.prog (w.withFollow "special-get-raises" false)) 7000 RR.prog (w.withFollow "special-get-raises" false) os).map (fun s => (looksF RR.prog (boot_heap (w.withFollow "special-get-raises" false).params) s.abs, seenQ QQ loose (importedModules RR.prog.main.body) (fun s => xlAt QQ [] s && recOk RR.toRowW.records s) s.abs)) = some (true, openGood QQ loose) := by kernel_rfl
open PySem.W HandSHeadRun in
theorem rC0 (w : World) (os : OsState) : (endF (stepQ (denQ tabQ) RR.prog (w.withFollow "special-get-raises" false)) 7000 RR.prog (w.withFollow "special-get-raises" false) os).map obX = some (hkX.val (w.withFollow "special-get-raises" false)) := by kernel_rfl
open PySem.W HandSHeadRun in
theorem rA1 (w : World) (os : OsState) : (endF (stepQ (denQ tabQ) RR.prog (w.withFollow "special-get-raises" true)) 7000 RR.prog (w.withFollow "special-get-raises" true) os).map (fun s => (looksF RR.prog (boot_heap (w.withFollow "special-get-raises" true).params) s.abs, seenQ QQ loose (importedModules RR.prog.main.body) (fun s => xlAt QQ [] s && recOk RR.toRowW.records s) s.abs)) = some (true, openGood QQ loose) := by kernel_rfl
open PySem.W HandSHeadRun in
theorem rC1 (w : World) (os : OsState) : (endF (stepQ (denQ tabQ) RR.prog (w.withFollow "special-get-raises" true)) 7000 RR.prog (w.withFollow "special-get-raises" true) os).map obX = some (hkX.val (w.withFollow "special-get-raises" true)) := by kernel_rfl
theorem two_maps {α β γ δ : Type} {o : Option α} {f : α → β} {g : α → γ} {k : α → δ} {b : β} {c : γ} {d : δ} (h : o.map (fun s => (f s, g s)) = some (b, c)) (h2 : o.map k = some d) : o.map (fun s => (f s, g s, k s)) = some (b, c, d) := by
  cases o with
  | none => cases h
  | some s =>
    obtain ⟨e1, e2⟩ := Prod.mk.inj (Option.some.inj h)
    have e3 : k s = d := Option.some.inj h2
    show some (f s, g s, k s) = _
    rw [e1, e2, e3]
theorem runX (w : World) : HandSHeadRun.RunEq RR QQ hkX obX 7000 loose w :=
  PySem.W.byRow2 "special-get-raises" (P := fun w => HandSHeadRun.RunEq RR QQ hkX obX 7000 loose w) (fun w os => two_maps (rA0 w os) (rC0 w os)) (fun w os => two_maps (rA1 w os) (rC1 w os)) w
end SD
end
end HDS
namespace SD
/-! # The mathematics: sayings, their parts, their order, their texts -/
inductive Ltr | p | q | r
  deriving DecidableEq
inductive Op | conj | disj | impl
  deriving DecidableEq
inductive Say
  | no | letter (c : Ltr) | neg (a : Say) | shown (a : Say) | bin (o : Op) (a b : Say)
  deriving DecidableEq
def Ltr.ix : Ltr → Nat | .p => 0 | .q => 1 | .r => 2
def Ltr.code : Ltr → Nat | .p => 112 | .q => 113 | .r => 114
def Op.sign : Op → Nat | .conj => 38 | .disj => 124 | .impl => 62
theorem Ltr.ix_inj : ∀ {a b : Ltr}, a.ix = b.ix → a = b := by intro a b; cases a <;> cases b <;> simp [Ltr.ix]
namespace Say
def size : Say → Nat | .no => 1 | .letter _ => 1 | .neg a => 1 + a.size | .shown a => 1 + a.size | .bin _ a b => 1 + (a.size + b.size)
def depth : Say → Nat | .no => 0 | .letter _ => 0 | .neg a => a.depth | .shown a => a.depth + 1 | .bin _ a b => max a.depth b.depth
/-- how deep the tuples are nested -/
def ht : Say → Nat | .no => 0 | .letter _ => 0 | .neg a => a.ht + 1 | .shown a => a.ht + 1 | .bin _ a b => max a.ht b.ht + 1
def kids : Say → List Say | .no => [] | .letter _ => [] | .neg a => [a] | .shown a => [a] | .bin _ a b => [a, b]
def parts : Say → List Say | .no => [.no] | .letter c => [.letter c] | .neg a => .neg a :: a.parts | .shown a => .shown a :: a.parts | .bin o a b => .bin o a b :: (a.parts ++ b.parts)
def isShown : Say → Bool | .shown _ => true | _ => false
def isLetter : Say → Bool | .letter _ => true | _ => false
def text : Say → List Nat | .no => [48] | .letter c => [c.code] | .neg a => 126 :: a.text | .shown a => 91 :: (a.text ++ [93]) | .bin o a b => 40 :: (a.text ++ (o.sign :: (b.text ++ [41])))
def put : Say → Ltr → Say → Say | .no, _, _ => .no | .letter d, c, t => if d = c then t else .letter d | .neg a, c, t => .neg (a.put c t) | .shown a, c, t => .shown (a.put c t) | .bin o a b, c, t => .bin o (a.put c t) (b.put c t)
def has (c : Ltr) : Say → Bool | .no => false | .letter d => decide (d = c) | .neg a => a.has c | .shown a => a.has c | .bin _ a b => a.has c || b.has c
/-- p stands within no shown part -/
def outside : Say → Bool | .no => false | .letter c => decide (c = .p) | .neg a => a.outside | .shown _ => false | .bin _ a b => a.outside || b.outside
theorem size_pos : ∀ s : Say, 1 ≤ s.size := by intro s; cases s <;> simp [size] <;> omega
theorem ht_lt : ∀ s : Say, s.ht < s.size
  | .no => by simp [ht, size]
  | .letter _ => by simp [ht, size]
  | .neg a => by have := ht_lt a; simp [ht, size]; omega
  | .shown a => by have := ht_lt a; simp [ht, size]; omega
  | .bin _ a b => by have := ht_lt a; have := ht_lt b; simp [ht, size]; omega
theorem depth_le : ∀ s : Say, s.depth ≤ s.ht
  | .no => by simp [ht, depth]
  | .letter _ => by simp [ht, depth]
  | .neg a => by have := depth_le a; simp [ht, depth]; omega
  | .shown a => by have := depth_le a; simp [ht, depth]; omega
  | .bin _ a b => by have := depth_le a; have := depth_le b; simp [ht, depth]; omega
theorem parts_len : ∀ s : Say, s.parts.length = s.size
  | .no => by simp [parts, size]
  | .letter _ => by simp [parts, size]
  | .neg a => by have := parts_len a; simp [parts, size]; omega
  | .shown a => by have := parts_len a; simp [parts, size]; omega
  | .bin _ a b => by have := parts_len a; have := parts_len b; simp [parts, size]; omega
theorem self_parts (s : Say) : s ∈ s.parts := by cases s <;> simp [parts]
theorem parts_trans : ∀ {s t u : Say}, t ∈ s.parts → u ∈ t.parts → u ∈ s.parts
  | .no, t, u, h, h' => by simp [parts] at h; subst h; exact h'
  | .letter _, t, u, h, h' => by simp [parts] at h; subst h; exact h'
  | .neg a, t, u, h, h' => by
    simp only [parts, List.mem_cons] at h ⊢
    rcases h with rfl | h
    · simpa [parts] using h'
    · exact .inr (parts_trans h h')
  | .shown a, t, u, h, h' => by
    simp only [parts, List.mem_cons] at h ⊢
    rcases h with rfl | h
    · simpa [parts] using h'
    · exact .inr (parts_trans h h')
  | .bin o a b, t, u, h, h' => by
    simp only [parts, List.mem_cons, List.mem_append] at h ⊢
    rcases h with rfl | h | h
    · simpa [parts] using h'
    · exact .inr (.inl (parts_trans h h'))
    · exact .inr (.inr (parts_trans h h'))
theorem part_ht : ∀ {s t : Say}, t ∈ s.parts → t.ht ≤ s.ht
  | .no, t, h => by simp [parts] at h; subst h; exact Nat.le_refl _
  | .letter _, t, h => by simp [parts] at h; subst h; exact Nat.le_refl _
  | .neg a, t, h => by
    simp only [parts, List.mem_cons] at h
    rcases h with rfl | h
    · exact Nat.le_refl _
    · have := part_ht h; simp only [ht]; omega
  | .shown a, t, h => by
    simp only [parts, List.mem_cons] at h
    rcases h with rfl | h
    · exact Nat.le_refl _
    · have := part_ht h; simp only [ht]; omega
  | .bin o a b, t, h => by
    simp only [parts, List.mem_cons, List.mem_append] at h
    rcases h with rfl | h | h
    · exact Nat.le_refl _
    · have := part_ht h; simp only [ht]; omega
    · have := part_ht h; simp only [ht]; omega
theorem has_iff (c : Ltr) : ∀ s : Say, s.has c = true ↔ Say.letter c ∈ s.parts
  | .no => by simp [has, parts]
  | .letter d => by simp [has, parts, eq_comm]
  | .neg a => by simp [has, parts, has_iff c a]
  | .shown a => by simp [has, parts, has_iff c a]
  | .bin o a b => by simp [has, parts, has_iff c a, has_iff c b]
theorem text_has (c : Ltr) : ∀ s : Say, (c.code ∈ s.text) ↔ s.has c = true
  | .no => by cases c <;> simp [has, text, Ltr.code]
  | .letter d => by cases c <;> cases d <;> simp [has, text, Ltr.code]
  | .neg a => by have := text_has c a; cases c <;> simp_all [has, text, Ltr.code]
  | .shown a => by have := text_has c a; cases c <;> simp_all [has, text, Ltr.code]
  | .bin o a b => by have h1 := text_has c a; have h2 := text_has c b; cases c <;> cases o <;> simp_all [has, text, Ltr.code, Op.sign]
theorem text_len : ∀ s : Say, s.text.length ≤ 3 * s.size ∧ 1 ≤ s.text.length
  | .no => by simp [text, size]
  | .letter _ => by simp [text, size]
  | .neg a => by have := text_len a; simp [text, size]; omega
  | .shown a => by have := text_len a; simp [text, size]; omega
  | .bin _ a b => by have := text_len a; have := text_len b; simp [text, size]; omega
theorem text_blank : ∀ s : Say, 32 ∉ s.text
  | .no => by simp [text]
  | .letter c => by cases c <;> simp [text, Ltr.code]
  | .neg a => by have := text_blank a; simp_all [text]
  | .shown a => by have := text_blank a; simp_all [text]
  | .bin o a b => by have h1 := text_blank a; have h2 := text_blank b; cases o <;> simp_all [text, Op.sign]
theorem put_size (c : Ltr) (t : Say) : ∀ s : Say, (s.put c t).size ≤ s.size * t.size
  | .no => by have := size_pos t; simp [put, size]; omega
  | .letter d => by have := size_pos t; simp only [put]; split <;> simp [size] <;> omega
  | .neg a => by have := put_size c t a; have := size_pos t; simp only [put, size, Nat.add_mul, Nat.one_mul]; omega
  | .shown a => by have := put_size c t a; have := size_pos t; simp only [put, size, Nat.add_mul, Nat.one_mul]; omega
  | .bin _ a b => by have := put_size c t a; have := put_size c t b; have := size_pos t; simp only [put, size, Nat.add_mul, Nat.one_mul]; omega
theorem put_ht (c : Ltr) (t : Say) : ∀ s : Say, (s.put c t).ht ≤ s.ht + t.ht
  | .no => by simp [put, ht]
  | .letter d => by simp only [put]; split <;> simp [ht]
  | .neg a => by have := put_ht c t a; simp only [put, ht]; omega
  | .shown a => by have := put_ht c t a; simp only [put, ht]; omega
  | .bin _ a b => by have := put_ht c t a; have := put_ht c t b; simp only [put, ht]; omega
/-- leaves put for a letter keep the size, up to t's -/
theorem put_size1 (c : Ltr) {t : Say} (h : t.size = 1) : ∀ s : Say, (s.put c t).size = s.size
  | .no => by simp [put]
  | .letter d => by simp only [put]; split <;> simp [size, h]
  | .neg a => by have := put_size1 c h a; simp [put, size, this]
  | .shown a => by have := put_size1 c h a; simp [put, size, this]
  | .bin _ a b => by have := put_size1 c h a; have := put_size1 c h b; simp [put, size, *]

/-! ### the order -/
def rankO : Op → Nat | .conj => 0 | .impl => 1 | .disj => 5
def rank : Say → Nat | .letter _ => 2 | .no => 3 | .neg _ => 4 | .shown _ => 6 | .bin o _ _ => rankO o
def lt : Say → Say → Bool
  | .letter a, .letter b => decide (a.ix < b.ix)
  | .neg a, .neg b => lt a b
  | .shown a, .shown b => lt a b
  | .bin o a b, .bin o' c d => if o = o' then (if a = c then lt b d else lt a c) else decide (rankO o < rankO o')
  | s, t => decide (rank s < rank t)
theorem rankO_inj {o o' : Op} (h : rankO o = rankO o') : o = o' := by cases o <;> cases o' <;> simp [rankO] at h ⊢
theorem rankO_ne (o : Op) : rankO o ≠ 2 ∧ rankO o ≠ 3 ∧ rankO o ≠ 4 ∧ rankO o ≠ 6 := by cases o <;> simp [rankO]
/-- of one kind -/
theorem kin {s t : Say} (h : rank s = rank t) : (s = .no ∧ t = .no) ∨ (∃ c d, s = .letter c ∧ t = .letter d) ∨ (∃ a b, s = .neg a ∧ t = .neg b) ∨ (∃ a b, s = .shown a ∧ t = .shown b) ∨ ∃ o a b c d, s = .bin o a b ∧ t = .bin o c d := by
  cases s with
  | no => cases t with
    | no => exact .inl ⟨rfl, rfl⟩
    | bin o c d => exact absurd h.symm (rankO_ne o).2.1
    | _ => simp [rank] at h
  | letter c => cases t with
    | letter d => exact .inr (.inl ⟨c, d, rfl, rfl⟩)
    | bin o c d => exact absurd h.symm (rankO_ne o).1
    | _ => simp [rank] at h
  | neg a => cases t with
    | neg b => exact .inr (.inr (.inl ⟨a, b, rfl, rfl⟩))
    | bin o c d => exact absurd h.symm (rankO_ne o).2.2.1
    | _ => simp [rank] at h
  | shown a => cases t with
    | shown b => exact .inr (.inr (.inr (.inl ⟨a, b, rfl, rfl⟩)))
    | bin o c d => exact absurd h.symm (rankO_ne o).2.2.2
    | _ => simp [rank] at h
  | bin o a b => cases t with
    | no => exact absurd h (rankO_ne o).2.1
    | letter d => exact absurd h (rankO_ne o).1
    | neg d => exact absurd h (rankO_ne o).2.2.1
    | shown d => exact absurd h (rankO_ne o).2.2.2
    | bin o' c d =>
      have e : o = o' := rankO_inj h
      subst e
      exact .inr (.inr (.inr (.inr ⟨o, a, b, c, d, rfl, rfl⟩)))
theorem lt_diff {s t : Say} (h : rank s ≠ rank t) : lt s t = decide (rank s < rank t) := by
  cases s <;> cases t <;> first | rfl | exact absurd rfl h | skip
  rename_i o a b o' c d
  have ho : ¬ o = o' := fun e => h (by rw [e]; rfl)
  show (if o = o' then _ else _) = _
  rw [if_neg ho]
  rfl
theorem lt_bin (o : Op) (a b c d : Say) : lt (.bin o a b) (.bin o c d) = if a = c then lt b d else lt a c := by
  show (if o = o then _ else _) = _
  rw [if_pos rfl]
theorem lt_irrefl : ∀ s : Say, lt s s = false
  | .no => by simp [lt]
  | .letter _ => by simp [lt]
  | .neg a => by simp [lt, lt_irrefl a]
  | .shown a => by simp [lt, lt_irrefl a]
  | .bin o a b => by rw [lt_bin, if_pos rfl, lt_irrefl b]
theorem lt_total : ∀ s t : Say, lt s t = false → lt t s = false → s = t := by
  intro s
  induction s with
  | no =>
    intro t h h'
    by_cases e : rank Say.no = rank t
    · rcases kin e with ⟨_, rfl⟩ | ⟨_, _, q, _⟩ | ⟨_, _, q, _⟩ | ⟨_, _, q, _⟩ | ⟨_, _, _, _, _, q, _⟩
      · rfl
      all_goals cases q
    · rw [lt_diff e] at h; rw [lt_diff (Ne.symm e)] at h'
      have := of_decide_eq_false h; have := of_decide_eq_false h'; omega
  | letter c =>
    intro t h h'
    by_cases e : rank (Say.letter c) = rank t
    · rcases kin e with ⟨q, _⟩ | ⟨_, d, q, rfl⟩ | ⟨_, _, q, _⟩ | ⟨_, _, q, _⟩ | ⟨_, _, _, _, _, q, _⟩
      · cases q
      · have h1 := of_decide_eq_false h; have h2 := of_decide_eq_false h'
        rw [Ltr.ix_inj (a := c) (b := d) (by omega)]
      all_goals cases q
    · rw [lt_diff e] at h; rw [lt_diff (Ne.symm e)] at h'
      have := of_decide_eq_false h; have := of_decide_eq_false h'; omega
  | neg a ih =>
    intro t h h'
    by_cases e : rank (Say.neg a) = rank t
    · rcases kin e with ⟨q, _⟩ | ⟨_, _, q, _⟩ | ⟨_, b, q, rfl⟩ | ⟨_, _, q, _⟩ | ⟨_, _, _, _, _, q, _⟩
      · cases q
      · cases q
      · rw [ih b h h']
      all_goals cases q
    · rw [lt_diff e] at h; rw [lt_diff (Ne.symm e)] at h'
      have := of_decide_eq_false h; have := of_decide_eq_false h'; omega
  | shown a ih =>
    intro t h h'
    by_cases e : rank (Say.shown a) = rank t
    · rcases kin e with ⟨q, _⟩ | ⟨_, _, q, _⟩ | ⟨_, _, q, _⟩ | ⟨_, b, q, rfl⟩ | ⟨_, _, _, _, _, q, _⟩
      · cases q
      · cases q
      · cases q
      · rw [ih b h h']
      all_goals cases q
    · rw [lt_diff e] at h; rw [lt_diff (Ne.symm e)] at h'
      have := of_decide_eq_false h; have := of_decide_eq_false h'; omega
  | bin o a b iha ihb =>
    intro t h h'
    by_cases e : rank (Say.bin o a b) = rank t
    · rcases kin e with ⟨q, _⟩ | ⟨_, _, q, _⟩ | ⟨_, _, q, _⟩ | ⟨_, _, q, _⟩ | ⟨o', _, _, c, d, q, rfl⟩
      · cases q
      · cases q
      · cases q
      · cases q
      · cases q
        rw [lt_bin] at h h'
        by_cases ac : a = c
        · subst ac
          rw [if_pos rfl] at h h'
          rw [ihb d h h']
        · rw [if_neg ac] at h
          rw [if_neg (Ne.symm ac)] at h'
          exact absurd (iha c h h') ac
    · rw [lt_diff e] at h; rw [lt_diff (Ne.symm e)] at h'
      have := of_decide_eq_false h; have := of_decide_eq_false h'; omega
theorem lt_rank {s t : Say} (h : lt s t = true) : rank s ≤ rank t := by
  by_cases e : rank s = rank t
  · omega
  · rw [lt_diff e] at h
    have := of_decide_eq_true h; omega
theorem lt_of_rank {s t : Say} (h : rank s < rank t) : lt s t = true := by rw [lt_diff (by omega)]; exact decide_eq_true h
theorem lt_trans : ∀ {s t u : Say}, lt s t = true → lt t u = true → lt s u = true := by
  intro s
  induction s with
  | no =>
    intro t u h h'
    have h1 := lt_rank h; have h2 := lt_rank h'
    by_cases e : rank Say.no < rank u
    · exact lt_of_rank e
    · rcases kin (s := .no) (t := t) (by omega) with ⟨_, rfl⟩ | ⟨_, _, q, _⟩ | ⟨_, _, q, _⟩ | ⟨_, _, q, _⟩ | ⟨_, _, _, _, _, q, _⟩
      · exact h'
      all_goals cases q
  | letter c =>
    intro t u h h'
    have h1 := lt_rank h; have h2 := lt_rank h'
    by_cases e : rank (Say.letter c) < rank u
    · exact lt_of_rank e
    · rcases kin (s := .letter c) (t := t) (by omega) with ⟨q, _⟩ | ⟨_, d, q, rfl⟩ | ⟨_, _, q, _⟩ | ⟨_, _, q, _⟩ | ⟨_, _, _, _, _, q, _⟩
      · cases q
      · rcases kin (s := .letter c) (t := u) (by omega) with ⟨q, _⟩ | ⟨_, f, q, rfl⟩ | ⟨_, _, q, _⟩ | ⟨_, _, q, _⟩ | ⟨_, _, _, _, _, q, _⟩
        · cases q
        · have := of_decide_eq_true h; have := of_decide_eq_true h'
          exact decide_eq_true (by omega)
        all_goals cases q
      all_goals cases q
  | neg a ih =>
    intro t u h h'
    have h1 := lt_rank h; have h2 := lt_rank h'
    by_cases e : rank (Say.neg a) < rank u
    · exact lt_of_rank e
    · rcases kin (s := .neg a) (t := t) (by omega) with ⟨q, _⟩ | ⟨_, _, q, _⟩ | ⟨_, d, q, rfl⟩ | ⟨_, _, q, _⟩ | ⟨_, _, _, _, _, q, _⟩
      · cases q
      · cases q
      · rcases kin (s := .neg a) (t := u) (by omega) with ⟨q, _⟩ | ⟨_, _, q, _⟩ | ⟨_, f, q, rfl⟩ | ⟨_, _, q, _⟩ | ⟨_, _, _, _, _, q, _⟩
        · cases q
        · cases q
        · exact ih h h'
        all_goals cases q
      all_goals cases q
  | shown a ih =>
    intro t u h h'
    have h1 := lt_rank h; have h2 := lt_rank h'
    by_cases e : rank (Say.shown a) < rank u
    · exact lt_of_rank e
    · rcases kin (s := .shown a) (t := t) (by omega) with ⟨q, _⟩ | ⟨_, _, q, _⟩ | ⟨_, _, q, _⟩ | ⟨_, d, q, rfl⟩ | ⟨_, _, _, _, _, q, _⟩
      · cases q
      · cases q
      · cases q
      · rcases kin (s := .shown a) (t := u) (by omega) with ⟨q, _⟩ | ⟨_, _, q, _⟩ | ⟨_, _, q, _⟩ | ⟨_, f, q, rfl⟩ | ⟨_, _, _, _, _, q, _⟩
        · cases q
        · cases q
        · cases q
        · exact ih h h'
        all_goals cases q
      all_goals cases q
  | bin o a b iha ihb =>
    intro t u h h'
    have h1 := lt_rank h; have h2 := lt_rank h'
    by_cases e : rank (Say.bin o a b) < rank u
    · exact lt_of_rank e
    · rcases kin (s := .bin o a b) (t := t) (by omega) with ⟨q, _⟩ | ⟨_, _, q, _⟩ | ⟨_, _, q, _⟩ | ⟨_, _, q, _⟩ | ⟨_, _, _, c, d, q, rfl⟩
      · cases q
      · cases q
      · cases q
      · cases q
      · cases q
        rcases kin (s := .bin o a b) (t := u) (by omega) with ⟨q, _⟩ | ⟨_, _, q, _⟩ | ⟨_, _, q, _⟩ | ⟨_, _, q, _⟩ | ⟨_, _, _, f, g, q, rfl⟩
        · cases q
        · cases q
        · cases q
        · cases q
        · cases q
          rw [lt_bin] at h h' ⊢
          by_cases ac : a = c
          · subst ac
            rw [if_pos rfl] at h
            by_cases cf : a = f
            · subst cf
              rw [if_pos rfl] at h' ⊢
              exact ihb h h'
            · rw [if_neg cf] at h' ⊢
              exact h'
          · rw [if_neg ac] at h
            by_cases cf : c = f
            · subst cf
              rw [if_neg ac]
              exact h
            · rw [if_neg cf] at h'
              have q := iha h h'
              have af : ¬ a = f := fun e => by
                subst e
                rw [lt_irrefl] at q
                cases q
              rw [if_neg af]
              exact q
theorem lt_asym {s t : Say} (h : lt s t = true) : lt t s = false := by
  cases e : lt t s with
  | false => rfl
  | true =>
    have := lt_trans h e
    rw [lt_irrefl] at this
    cases this
theorem lt_neg {x y z : Say} (h : lt y x = false) (h' : lt z y = false) : lt z x = false := by
  cases e : lt z x with
  | false => rfl
  | true =>
    cases q : lt x y with
    | true =>
      have := lt_trans e q
      rw [h'] at this
      cases this
    | false =>
      have := lt_total x y q h
      subst this
      rw [h'] at e
      cases e
end Say

/-! ### sorted, each once -/
/-- one turn of the loop that drops what came just before -/
def push (told : List Say) (one : Say) : List Say := if told.getLast? = some one then told else told ++ [one]
abbrev Up (l : List Say) : Prop := l.Pairwise fun a b => Say.lt a b = true
theorem push_mem (told : List Say) (one t : Say) : t ∈ push told one ↔ t ∈ told ∨ t = one := by
  unfold push
  split
  · rename_i h
    constructor
    · exact .inl
    · rintro (h' | rfl)
      · exact h'
      · exact List.mem_of_getLast? h
  · simp
theorem push_up {told : List Say} {one : Say} (h : Up told) (hl : ∀ t ∈ told, Say.lt one t = false) : Up (push told one) := by
  unfold push
  split
  · exact h
  · rename_i hne
    rw [Up, List.pairwise_append]
    refine ⟨h, List.pairwise_singleton _ _, fun a ha b hb => ?_⟩
    rw [List.mem_singleton] at hb
    subst hb
    cases e : Say.lt a b with
    | true => rfl
    | false =>
      have q := Say.lt_total a b e (hl a ha)
      subst q
      exfalso
      -- a is in told and not its last: something above a stands behind it
      rcases List.eq_nil_or_concat told with rfl | ⟨l, x, rfl⟩
      · cases ha
      · rw [List.concat_eq_append] at h ha hl hne
        rw [List.getLast?_concat] at hne
        rw [List.mem_append, List.mem_singleton] at ha
        rcases ha with ha | rfl
        · have h1 : Say.lt a x = true := (List.pairwise_append.mp h).2.2 a ha x (List.mem_singleton.mpr rfl)
          have h2 := hl x (by simp)
          rw [h1] at h2
          cases h2
        · exact hne rfl
theorem fold_push : ∀ (xs told : List Say), Up told → (xs.Pairwise fun a b => Say.lt b a = false) → (∀ t ∈ told, ∀ x ∈ xs, Say.lt x t = false) → Up (xs.foldl push told) ∧ ∀ t, t ∈ xs.foldl push told ↔ t ∈ told ∨ t ∈ xs
  | [], told, h, _, _ => ⟨h, fun t => by simp⟩
  | x :: xs, told, h, hs, hb => by
    rw [List.pairwise_cons] at hs
    have u := push_up h fun t ht => hb t ht x (List.mem_cons_self ..)
    obtain ⟨g1, g2⟩ := fold_push xs (push told x) u hs.2 fun t ht y hy => by
      rcases (push_mem told x t).mp ht with h' | rfl
      · exact hb t h' y (List.mem_cons_of_mem _ hy)
      · exact hs.1 y hy
    refine ⟨g1, fun t => ?_⟩
    rw [List.foldl_cons, g2, push_mem, List.mem_cons, or_assoc]
/-- two rising lists of the same members are one -/
theorem up_unique : ∀ {l m : List Say}, Up l → Up m → (∀ t, t ∈ l ↔ t ∈ m) → l = m
  | [], [], _, _, _ => rfl
  | [], y :: m, _, _, h => absurd ((h y).mpr (List.mem_cons_self ..)) (by simp)
  | x :: l, [], _, _, h => absurd ((h x).mp (List.mem_cons_self ..)) (by simp)
  | x :: l, y :: m, hl, hm, h => by
    rw [Up, List.pairwise_cons] at hl hm
    have e : x = y := by
      rcases List.mem_cons.mp ((h x).mp (List.mem_cons_self ..)) with e | e
      · exact e
      · rcases List.mem_cons.mp ((h y).mpr (List.mem_cons_self ..)) with e' | e'
        · exact e'.symm
        · have := Say.lt_asym (hm.1 x e)
          rw [hl.1 y e'] at this
          cases this
    subst e
    have nx : x ∉ l := fun q => by have := hl.1 x q; rw [Say.lt_irrefl] at this; cases this
    have nm : x ∉ m := fun q => by have := hm.1 x q; rw [Say.lt_irrefl] at this; cases this
    rw [up_unique hl.2 hm.2 fun t => ?_]
    constructor
    · intro ht
      rcases List.mem_cons.mp ((h t).mp (List.mem_cons_of_mem _ ht)) with e | e
      · subst e; exact absurd ht nx
      · exact e
    · intro ht
      rcases List.mem_cons.mp ((h t).mpr (List.mem_cons_of_mem _ ht)) with e | e
      · subst e; exact absurd ht nm
      · exact e
theorem up_nodup {l : List Say} (h : Up l) : l.Nodup := by
  refine List.Pairwise.imp (fun {a b} hab e => ?_) h
  subst e
  rw [Say.lt_irrefl] at hab
  cases hab
/-- lists without doubles, one within the other -/
theorem nodup_le {α : Type} [DecidableEq α] : ∀ {l m : List α}, l.Nodup → (∀ t ∈ l, t ∈ m) → l.length ≤ m.length
  | [], _, _, _ => Nat.zero_le _
  | x :: l, m, h, hs => by
    rw [List.nodup_cons] at h
    have hx := hs x (List.mem_cons_self ..)
    have q := nodup_le (m := m.erase x) h.2 fun t ht => by
      have tx : t ≠ x := fun e => h.1 (e ▸ ht)
      exact (List.mem_erase_of_ne tx).mpr (hs t (List.mem_cons_of_mem _ ht))
    have := List.length_erase_of_mem hx
    have := List.length_pos_of_mem hx
    rw [List.length_cons]
    omega
theorem nodup_len {α : Type} [DecidableEq α] {l m : List α} (h : l.Nodup) (h' : m.Nodup) (e : ∀ t, t ∈ l ↔ t ∈ m) : l.length = m.length :=
  Nat.le_antisymm (nodup_le h fun t ht => (e t).mp ht) (nodup_le h' fun t ht => (e t).mpr ht)
/-- the rising list of the letters that a saying has -/
def lets (s : Say) : List Ltr := [Ltr.p, .q, .r].filter fun c => s.has c
def ltrOf : Say → Option Ltr | .letter c => some c | _ => none
/-- the letters among a rising list of all parts -/
theorem lets_of {s : Say} {l : List Say} (h : Up l) (hm : ∀ t, t ∈ l ↔ t ∈ s.parts) : l.filter Say.isLetter = (lets s).map Say.letter := by
  refine up_unique (List.Pairwise.filter _ h) ?_ fun t => ?_
  · unfold lets
    rw [Up, List.pairwise_map]
    refine List.Pairwise.filter _ ?_
    simp [Say.lt, Ltr.ix]
  · rw [List.mem_filter, hm, List.mem_map]
    constructor
    · rintro ⟨h1, h2⟩
      cases t <;> simp [Say.isLetter] at h2
      rename_i c
      exact ⟨c, List.mem_filter.mpr ⟨by cases c <;> simp, (Say.has_iff c s).mpr h1⟩, rfl⟩
    · rintro ⟨c, h1, rfl⟩
      exact ⟨(Say.has_iff c s).mp (List.mem_filter.mp h1).2, rfl⟩
/-! ### the law's own list of the shown parts -/
/-- what is new of a list -/
def fresh (have_ : List Say) (l : List Say) : List Say := have_ ++ l.filter fun t => decide (t ∉ have_)
def lshown : Say → List Say
  | .no => [] | .letter _ => []
  | .neg a => fresh [] (lshown a)
  | .shown a => let f := fresh [] (lshown a); if .shown a ∈ f then f else f ++ [.shown a]
  | .bin _ a b => fresh (fresh [] (lshown a)) (lshown b)
theorem fresh_mem (h l : List Say) (t : Say) : t ∈ fresh h l ↔ t ∈ h ∨ t ∈ l := by
  unfold fresh
  rw [List.mem_append, List.mem_filter]
  by_cases q : t ∈ h <;> simp [q]
theorem fresh_nodup {h l : List Say} (hh : h.Nodup) (hl : l.Nodup) : (fresh h l).Nodup := by
  unfold fresh
  rw [List.nodup_append]
  refine ⟨hh, List.Pairwise.filter _ hl, fun a ha b hb e => ?_⟩
  subst e
  simp [ha] at hb
theorem lshown_ok : ∀ s : Say, (lshown s).Nodup ∧ ∀ t, t ∈ lshown s ↔ t ∈ s.parts ∧ t.isShown = true
  | .no => by simp [lshown, Say.parts]; rfl
  | .letter c => by simp [lshown, Say.parts]; rfl
  | .neg a => by
    obtain ⟨h1, h2⟩ := lshown_ok a
    refine ⟨fresh_nodup List.nodup_nil h1, fun t => ?_⟩
    rw [lshown, fresh_mem, h2, Say.parts, List.mem_cons]
    constructor
    · rintro (h | ⟨h, h'⟩)
      · cases h
      · exact ⟨.inr h, h'⟩
    · rintro ⟨rfl | h, h'⟩
      · cases h'
      · exact .inr ⟨h, h'⟩
  | .shown a => by
    obtain ⟨h1, h2⟩ := lshown_ok a
    have n := fresh_nodup (h := []) List.nodup_nil h1
    have m : ∀ t, t ∈ fresh [] (lshown a) ↔ t ∈ a.parts ∧ t.isShown = true := fun t => by rw [fresh_mem, h2]; simp
    have na : Say.shown a ∉ fresh [] (lshown a) := fun h => by
      have := Say.part_ht ((m _).mp h).1
      simp only [Say.ht] at this
      omega
    rw [lshown]
    simp only [if_neg na]
    constructor
    · rw [List.nodup_append]
      refine ⟨n, by simp, fun x hx y hy e => ?_⟩
      rw [List.mem_singleton] at hy
      subst hy; subst e
      exact na hx
    · intro t
      rw [List.mem_append, m, List.mem_singleton, Say.parts, List.mem_cons]
      constructor
      · rintro (⟨h, h'⟩ | rfl)
        · exact ⟨.inr h, h'⟩
        · exact ⟨.inl rfl, rfl⟩
      · rintro ⟨rfl | h, h'⟩
        · exact .inr rfl
        · exact .inl ⟨h, h'⟩
  | .bin o a b => by
    obtain ⟨h1, h2⟩ := lshown_ok a
    obtain ⟨h3, h4⟩ := lshown_ok b
    refine ⟨fresh_nodup (fresh_nodup List.nodup_nil h1) h3, fun t => ?_⟩
    rw [lshown, fresh_mem, fresh_mem, h2, h4, Say.parts, List.mem_cons, List.mem_append]
    constructor
    · rintro ((h | ⟨h, h'⟩) | ⟨h, h'⟩)
      · cases h
      · exact ⟨.inr (.inl h), h'⟩
      · exact ⟨.inr (.inr h), h'⟩
    · rintro ⟨rfl | h | h, h'⟩
      · cases h'
      · exact .inl (.inr ⟨h, h'⟩)
      · exact .inr ⟨h, h'⟩
/-- the count of the unlike shown parts, as the law reckons it -/
def many (s : Say) : Nat := (lshown s).length
theorem many_eq {s : Say} {l : List Say} (h : l.Nodup) (hm : ∀ t, t ∈ l ↔ t ∈ s.parts ∧ t.isShown = true) : l.length = many s :=
  nodup_len h (lshown_ok s).1 fun t => by rw [hm, (lshown_ok s).2]
theorem many_le (s : Say) : many s ≤ s.size := by
  rw [← Say.parts_len]
  exact nodup_le (lshown_ok s).1 fun t ht => (((lshown_ok s).2 t).mp ht).1
end SD
namespace SD
open PySem PySem.Spec PyProof.Rows L2
/-! # Sayings in the heap -/
def Ltr.str (c : Ltr) : Str := ⟨#[c.code]⟩
def Op.word : Op → Str | .conj => "and" | .disj => "or" | .impl => "if"
namespace Say
def word : Say → Str | .no => "no" | .letter _ => "letter" | .neg _ => "not" | .shown _ => "shown" | .bin o _ _ => o.word
def data : Say → PyData
  | .no => .tuple [.str "no"] | .letter c => .tuple [.str "letter", .str c.str] | .neg a => .tuple [.str "not", a.data] | .shown a => .tuple [.str "shown", a.data] | .bin o a b => .tuple [.str o.word, a.data, b.data]
end Say
/-- at v stands the saying s -/
def SayAt (H : Hp) : Say → V → Prop
  | .no, v => ∃ a, v = .ref a ∧ H a = some (.tup [.str "no"])
  | .letter c, v => ∃ a, v = .ref a ∧ H a = some (.tup [.str "letter", .str c.str])
  | .neg x, v => ∃ a w, v = .ref a ∧ H a = some (.tup [.str "not", w]) ∧ SayAt H x w
  | .shown x, v => ∃ a w, v = .ref a ∧ H a = some (.tup [.str "shown", w]) ∧ SayAt H x w
  | .bin o x y, v => ∃ a w u, v = .ref a ∧ H a = some (.tup [.str o.word, w, u]) ∧ SayAt H x w ∧ SayAt H y u
theorem SayAt.mono {H H' : Hp} (g : Same H H') : ∀ {s : Say} {v : V}, SayAt H s v → SayAt H' s v
  | .no, _, ⟨a, e, h⟩ => ⟨a, e, g _ _ h⟩
  | .letter c, _, ⟨a, e, h⟩ => ⟨a, e, g _ _ h⟩
  | .neg x, _, ⟨a, w, e, h, h1⟩ => ⟨a, w, e, g _ _ h, h1.mono g⟩
  | .shown x, _, ⟨a, w, e, h, h1⟩ => ⟨a, w, e, g _ _ h, h1.mono g⟩
  | .bin o x y, _, ⟨a, w, u, e, h, h1, h2⟩ => ⟨a, w, u, e, g _ _ h, h1.mono g, h2.mono g⟩
/-- sayings at values, one by one -/
abbrev SaysAt (H : Hp) : List Say → List V → Prop := Paired (SayAt H)
theorem SaysAt.mono {H H' : Hp} (g : Same H H') {ss : List Say} {vs : List V} (h : SaysAt H ss vs) : SaysAt H' ss vs := Paired.mapP h fun _ _ q => q.mono g
/-- the tuple: its word, then the rest: the letter, or the kids -/
def Rest (H : Hp) (s : Say) (r : List V) : Prop := match s with
  | .letter c => r = [.str c.str]
  | s => SaysAt H s.kids r
theorem SayAt.tup {H : Hp} {s : Say} {v : V} (h : SayAt H s v) : ∃ a r, v = .ref a ∧ H a = some (.tup (.str s.word :: r)) ∧ Rest H s r := by
  cases s with
  | no => obtain ⟨a, e, h⟩ := h; exact ⟨a, _, e, h, .nil⟩
  | letter c => obtain ⟨a, e, h⟩ := h; exact ⟨a, _, e, h, rfl⟩
  | neg x => obtain ⟨a, w, e, h, h1⟩ := h; exact ⟨a, _, e, h, .cons h1 .nil⟩
  | shown x => obtain ⟨a, w, e, h, h1⟩ := h; exact ⟨a, _, e, h, .cons h1 .nil⟩
  | bin o x y => obtain ⟨a, w, u, e, h, h1, h2⟩ := h; exact ⟨a, _, e, h, .cons h1 (.cons h2 .nil)⟩
/-! ### as data -/
mutual
theorem SayAt.dp {K : PySem.W.Frag} {H : Hp} : ∀ {s : Say} {v : V}, SayAt H s v → Dp K H v s.data
  | .no, _, ⟨a, e, h⟩ => by subst e; exact .tup (SqT.of h) (.cons (.str _) .nil)
  | .letter c, _, ⟨a, e, h⟩ => by subst e; exact .tup (SqT.of h) (.cons (.str _) (.cons (.str _) .nil))
  | .neg x, _, ⟨a, w, e, h, h1⟩ => by subst e; exact .tup (SqT.of h) (.cons (.str _) (.cons h1.dp .nil))
  | .shown x, _, ⟨a, w, e, h, h1⟩ => by subst e; exact .tup (SqT.of h) (.cons (.str _) (.cons h1.dp .nil))
  | .bin o x y, _, ⟨a, w, u, e, h, h1, h2⟩ => by subst e; exact .tup (SqT.of h) (.cons (.str _) (.cons h1.dp (.cons h2.dp .nil)))
end
theorem SaysAt.dps {K : PySem.W.Frag} {H : Hp} : ∀ {ss : List Say} {vs : List V}, SaysAt H ss vs → DpAll K H vs (ss.map Say.data)
  | [], _, .nil => .nil
  | _ :: _, _, .cons h t => .cons h.dp (SaysAt.dps t)
theorem lstr_ok : ∀ c : Ltr, PyData.strOk c.str = true := by intro c; cases c <;> decide +kernel
theorem oword_ok : ∀ o : Op, PyData.strOk o.word = true := by intro o; cases o <;> decide +kernel
theorem w_ok : PyData.strOk "no" = true ∧ PyData.strOk "letter" = true ∧ PyData.strOk "not" = true ∧ PyData.strOk "shown" = true := by decide +kernel
theorem Say.data_lay : ∀ s : Say, s.data.canLay0 = true
  | .no => by simp [Say.data, PyData.canLay0, PyData.canLayAll0, w_ok]
  | .letter c => by simp [Say.data, PyData.canLay0, PyData.canLayAll0, w_ok, lstr_ok]
  | .neg a => by simp [Say.data, PyData.canLay0, PyData.canLayAll0, w_ok, Say.data_lay a]
  | .shown a => by simp [Say.data, PyData.canLay0, PyData.canLayAll0, w_ok, Say.data_lay a]
  | .bin o a b => by simp [Say.data, PyData.canLay0, PyData.canLayAll0, oword_ok, Say.data_lay a, Say.data_lay b]
theorem Say.datas_lay : ∀ ss : List Say, PyData.canLayAll0 (ss.map Say.data) = true
  | [] => by simp [PyData.canLayAll0]
  | s :: ss => by simp [PyData.canLayAll0, Say.data_lay s, Say.datas_lay ss]
theorem Say.data_depth : ∀ s : Say, s.data.depth = s.ht + 1
  | .no => by simp [Say.data, PyData.depth, PyData.depthAll, Say.ht]
  | .letter c => by simp [Say.data, PyData.depth, PyData.depthAll, Say.ht]
  | .neg a => by simp [Say.data, PyData.depth, PyData.depthAll, Say.ht, Say.data_depth a]
  | .shown a => by simp [Say.data, PyData.depth, PyData.depthAll, Say.ht, Say.data_depth a]
  | .bin o a b => by simp [Say.data, PyData.depth, PyData.depthAll, Say.ht, Say.data_depth a, Say.data_depth b]
theorem str_ne (x y : Str) : (x == y) = decide (x = y) := by
  by_cases h : x = y
  · subst h; simp
  · rw [decide_eq_false h]; simpa using h
theorem lstr_inj : ∀ {a b : Ltr}, a.str = b.str → a = b := by intro a b; cases a <;> cases b <;> first | (intro; rfl) | (intro h; exact absurd h (by decide +kernel))
theorem oword_inj : ∀ {a b : Op}, a.word = b.word → a = b := by intro a b; cases a <;> cases b <;> first | (intro; rfl) | (intro h; exact absurd h (by decide +kernel))
theorem oword_ne : ∀ o : Op, o.word ≠ "no" ∧ o.word ≠ "letter" ∧ o.word ≠ "not" ∧ o.word ≠ "shown" := by intro o; cases o <;> decide +kernel
theorem w_ne : (("no" : Str) ≠ "letter" ∧ ("no" : Str) ≠ "not" ∧ ("no" : Str) ≠ "shown") ∧ (("letter" : Str) ≠ "not" ∧ ("letter" : Str) ≠ "shown") ∧ ("not" : Str) ≠ "shown" := by decide +kernel
theorem eqv_str (x y : Str) : PyData.eqv (.str x) (.str y) = decide (x = y) := by rw [PyData.eqv, str_ne]
theorem eqv_tup (xs ys : List PyData) : PyData.eqv (.tuple xs) (.tuple ys) = PyData.eqvAll xs ys := by rw [PyData.eqv]
theorem eqv_cons (x y : PyData) (xs ys : List PyData) : PyData.eqvAll (x :: xs) (y :: ys) = (PyData.eqv x y && PyData.eqvAll xs ys) := by rw [PyData.eqvAll]
theorem eqv_word {s t : Say} (h : s.word ≠ t.word) : PyData.eqv s.data t.data = false := by
  have hs : ∃ r, s.data = .tuple (.str s.word :: r) := by cases s <;> exact ⟨_, rfl⟩
  have ht : ∃ r, t.data = .tuple (.str t.word :: r) := by cases t <;> exact ⟨_, rfl⟩
  obtain ⟨r, hr⟩ := hs
  obtain ⟨r', hr'⟩ := ht
  rw [hr, hr', eqv_tup, eqv_cons, eqv_str, decide_eq_false h]
  rfl
theorem no_word {s t : Say} (h : s.word ≠ t.word) : PyData.eqv s.data t.data = decide (s = t) := by
  rw [eqv_word h, decide_eq_false fun e => h (by rw [e])]
theorem Say.eqv : ∀ s t : Say, PyData.eqv s.data t.data = decide (s = t) := by
  have nil : PyData.eqvAll [] [] = true := by rw [PyData.eqvAll]
  intro s
  induction s with
  | no =>
    intro t
    cases t with
    | no => simp [Say.data, eqv_tup, eqv_cons, eqv_str, nil]
    | letter => exact no_word w_ne.1.1
    | neg => exact no_word w_ne.1.2.1
    | shown => exact no_word w_ne.1.2.2
    | bin o _ _ => exact no_word (Ne.symm (oword_ne o).1)
  | letter c =>
    intro t
    cases t with
    | no => exact no_word (Ne.symm w_ne.1.1)
    | letter d =>
      simp only [Say.data, eqv_tup, eqv_cons, eqv_str, nil, decide_true, Bool.true_and, Bool.and_true]
      exact decide_eq_decide.mpr ⟨fun h => by rw [lstr_inj h], fun h => by injection h with h; rw [h]⟩
    | neg => exact no_word w_ne.2.1.1
    | shown => exact no_word w_ne.2.1.2
    | bin o _ _ => exact no_word (Ne.symm (oword_ne o).2.1)
  | neg a ih =>
    intro t
    cases t with
    | no => exact no_word (Ne.symm w_ne.1.2.1)
    | letter => exact no_word (Ne.symm w_ne.2.1.1)
    | neg b => simp [Say.data, eqv_tup, eqv_cons, eqv_str, nil, ih]
    | shown => exact no_word w_ne.2.2
    | bin o _ _ => exact no_word (Ne.symm (oword_ne o).2.2.1)
  | shown a ih =>
    intro t
    cases t with
    | no => exact no_word (Ne.symm w_ne.1.2.2)
    | letter => exact no_word (Ne.symm w_ne.2.1.2)
    | neg b => exact no_word (Ne.symm w_ne.2.2)
    | shown b => simp [Say.data, eqv_tup, eqv_cons, eqv_str, nil, ih]
    | bin o _ _ => exact no_word (Ne.symm (oword_ne o).2.2.2)
  | bin o a b iha ihb =>
    intro t
    cases t with
    | no => exact no_word (oword_ne o).1
    | letter => exact no_word (oword_ne o).2.1
    | neg => exact no_word (oword_ne o).2.2.1
    | shown => exact no_word (oword_ne o).2.2.2
    | bin o' c d =>
      by_cases ho : o = o'
      · subst ho; simp [Say.data, eqv_tup, eqv_cons, eqv_str, nil, iha, ihb]
      · exact no_word fun h => ho (oword_inj h)
theorem Say.any_eqv (s : Say) : ∀ ss : List Say, ((ss.map Say.data).any fun z => PyData.eqv z s.data) = decide (s ∈ ss)
  | [] => by simp
  | t :: ss => by
    rw [List.map_cons, List.any_cons, Say.any_eqv s ss, Say.eqv]
    by_cases h : t = s
    · subst h; simp
    · have h' : ¬ s = t := fun e => h e.symm
      simp [h, h']
/-! ### own rules: data at the depth that the call's room allows -/
section
variable {X : Cx}
/-- == , != of data nested at most 190 deep -/
def rEqDD (K : PySem.W.Frag) : R2 := fun x y H Q => ∃ d e, Dp K H x d ∧ Dp K H y e ∧ d.canLay0 = true ∧ e.canLay0 = true ∧ d.depth ≤ 190 ∧ Q (.bl (PyData.eqv d e)) H
def rNeDD (K : PySem.W.Frag) : R2 := fun x y H Q => ∃ d e, Dp K H x d ∧ Dp K H y e ∧ d.canLay0 = true ∧ e.canLay0 = true ∧ d.depth ≤ 190 ∧ Q (.bl (!PyData.eqv d e)) H
theorem room_dd {A : Around} {k : Nat} (hr : Room k A) {a b : Nat} (h : a ≤ 190) : A.units + min a b < cLine := by have := hr.un; omega
theorem op_eqDD {k : Nat} (hr : Room k X.A) : OpR X (compareOp .Eq) (rEqDD X.K) := by
  intro pins s σ H x y v u Q I rx ry h
  obtain ⟨d, e, hd, he, sd, se, hl, q⟩ := h
  obtain ⟨as, r1⟩ := Dp.reads I d x v hd rx
  obtain ⟨bs, r2⟩ := Dp.reads I e y u he ry
  exact SeqAt.compareEq_reads r1 r2 sd se (room_dd hr hl) ⟨.bl _, H, I, rfl, q⟩
theorem op_neDD {k : Nat} (hr : Room k X.A) : OpR X (compareOp .NotEq) (rNeDD X.K) := by
  intro pins s σ H x y v u Q I rx ry h
  obtain ⟨d, e, hd, he, sd, se, hl, q⟩ := h
  obtain ⟨as, r1⟩ := Dp.reads I d x v hd rx
  obtain ⟨bs, r2⟩ := Dp.reads I e y u he ry
  exact SeqAt.compareNe_reads r1 r2 sd se (room_dd hr hl) ⟨.bl _, H, I, rfl, q⟩
/-- a saying not in a list of sayings -/
def rNotInS (K : PySem.W.Frag) : R2 := fun x y H Q => ∃ s a vs ss, SayAt H s x ∧ y = .ref a ∧ SqL K H a vs ∧ SaysAt H ss vs ∧ s.ht ≤ 180 ∧ Q (.bl (!decide (s ∈ ss))) H
theorem op_notInS {k : Nat} (hr : Room k X.A) : OpR X (compareOp .NotIn) (rNotInS X.K) := by
  intro pins s σ H x y v u Q I rx ry h
  obtain ⟨t, a, vs, ss, ht, rfl, hl, hss, hh, q⟩ := h
  obtain ⟨as, r1⟩ := Dp.reads I t.data x v ht.dp rx
  obtain ⟨bs, r2⟩ := Dp.reads I (.list (ss.map Say.data)) _ u (.lst hl hss.dps) ry
  refine SeqAt.notIn_list_reads r2 r1 (Say.datas_lay ss) (Say.data_lay t) ?_ ⟨.bl _, H, I, rfl, ?_⟩
  · have := hr.un; rw [Say.data_depth]; omega
  · rw [Say.any_eqv]; exact q
/-- two sayings told apart -/
def rNeS : R2 := fun x y H Q => ∃ s t, SayAt H s x ∧ SayAt H t y ∧ s.ht ≤ 180 ∧ Q (.bl (!decide (s = t))) H
theorem op_neS {k : Nat} (hr : Room k X.A) : OpR X (compareOp .NotEq) rNeS := by
  intro pins s σ H x y v u Q I rx ry h
  obtain ⟨t, t', h1, h2, hl, q⟩ := h
  refine op_neDD hr pins s σ H x y v u Q I rx ry ⟨_, _, h1.dp, h2.dp, Say.data_lay t, Say.data_lay t', ?_, ?_⟩
  · rw [Say.data_depth]; omega
  · rw [Say.eqv]; exact q
end
end SD
/-! # sorted of sayings -/
namespace PySem.SeqAt
open AutoSeq1 (wpAny_loadPart')
open MeetsSeq MeetsSeq2 MeetsSeq3 SeqRoads2
/-- < of two tuples where an item's == and < are known as far as the items ahead of it are equal -/
theorem sd_tupLt (l b : Addr) (xs ys : Array Value) (n n2 : Nat) (dd dd2 : Option Addr) (sl sl2 : Array (Option Value)) (e r : Nat → Bool) :
    Meets (Builtin.«tuple.__lt__» ⟨[.ref l, .ref b], []⟩)
      (fun A R s => s.heap.get? l = some { cls := .type "tuple", dict := dd, data := .seq xs n, slots := sl } ∧ s.heap.get? b = some { cls := .type "tuple", dict := dd2, data := .seq ys n2, slots := sl2 } ∧
        (∀ j (h1 : j < xs.size) (h2 : j < ys.size), (∀ k, k < j → e k = true) → EqAt A.in1 s xs[j] ys[j] (e j) ∧ (e j = false → RcLt A.in1 s xs[j] ys[j] (r j))) ∧
        R (.ok (.ret (.bool (firstLt e r (decide (xs.size < ys.size)) (List.range (min xs.size ys.size)))))) s) :=
  .of_wp fun prog w A R s h => by
    obtain ⟨hp, g, d, tk, os⟩ := s; obtain ⟨hl, hb, ha, h⟩ := h
    have sub := AutoSeq1.sub_tuple_tuple
    have zl : (xs.toList.zip ys.toList).length = min xs.size ys.size := by simp
    wp_walk using wpAny_loadPart' hl, wpAny_loadPart' hb, wpAny_forIn_list _ (fun rest b s' => b.1 = none ∧ s' = ⟨hp, g, d, tk, os⟩ ∧ ∃ i, (∀ k, k < i → e k = true) ∧ rest = (xs.toList.zip ys.toList).drop i ∧
      R (.ok (.ret (.bool (firstLt e r (decide (xs.size < ys.size)) ((List.range (min xs.size ys.size)).drop i))))) ⟨hp, g, d, tk, os⟩) _
    case turn =>
      rintro ⟨y, x⟩ rest b s' ⟨hb', rfl, i, hi, hz, hR⟩
      have hlt : i < (xs.toList.zip ys.toList).length := by
        rcases Nat.lt_or_ge i (xs.toList.zip ys.toList).length with q | q
        · exact q
        · rw [List.drop_of_length_le q] at hz; cases hz
      have hm : i < min xs.size ys.size := zl ▸ hlt
      have h1 : i < xs.size := Nat.lt_of_lt_of_le hm (Nat.min_le_left _ _)
      have h2 : i < ys.size := Nat.lt_of_lt_of_le hm (Nat.min_le_right _ _)
      rw [List.drop_eq_getElem_cons hlt] at hz
      injection hz with hyx hrest
      have hy : y = xs[i] := by have := congrArg Prod.fst hyx; simpa using this
      have hx : x = ys[i] := by have := congrArg Prod.snd hyx; simpa using this
      subst hy hx
      obtain ⟨he, hr⟩ := ha i h1 h2 hi
      have hd : (List.range (min xs.size ys.size)).drop i = i :: (List.range (min xs.size ys.size)).drop (i + 1) := by simp [List.drop_eq_getElem_cons, hm]
      rw [hd] at hR
      refine wpAny_bind (he prog w _ _ ?_)
      cases hy : e i with
      | true =>
        rw [firstLt_yes hy] at hR
        wp_walk
        refine ⟨rfl, rfl, i + 1, fun k hk => ?_, hrest, hR⟩
        rcases Nat.lt_or_ge k i with q | q
        · exact hi k q
        · have : k = i := by omega
          rw [this]; exact hy
      | false =>
        rw [firstLt_no hy] at hR
        have hr' : ∀ (E : Value → Shared → Prop) (Q : Value → Shared → Prop), Q (.bool (r i)) ⟨hp, g, d, tk, os⟩ → wpAny (model prog w) A.in1 (richCompare .Lt xs[i] ys[i]) Q E ⟨hp, g, d, tk, os⟩ := fun E Q q => hr hy prog w E Q q
        wp_walk using hr'
        exact ⟨_, rfl, hR⟩
    case fin =>
      rintro ⟨b1, b2⟩ s' ⟨hb', rfl, i, _, hz, hR⟩
      simp only at hb'
      subst hb'
      have hge : min xs.size ys.size ≤ i := by
        rcases Nat.lt_or_ge i (xs.toList.zip ys.toList).length with q | q
        · rw [List.drop_eq_getElem_cons q] at hz; cases hz
        · exact zl ▸ q
      rw [List.drop_of_length_le (by simpa using hge)] at hR
      wp_walk
      exact ⟨_, rfl, by simpa [Builtin.Tuple.tupleCompareSizes, firstLt] using hR⟩
    case h =>
      exact ⟨rfl, rfl, 0, fun k hk => absurd hk (Nat.not_lt_zero _), rfl, by simpa using h⟩
theorem sd_rcLt {A : Around} {s : Shared} {l b : Addr} {xs ys : Array Value} {e r : Nat → Bool} (hl : s.heap.IsTuple l xs) (hb : s.heap.IsTuple b ys) (hu : A.units < cLine)
    (ha : ∀ j (h1 : j < xs.size) (h2 : j < ys.size), (∀ k, k < j → e k = true) → EqAt A.in1 s xs[j] ys[j] (e j) ∧ (e j = false → RcLt A.in1 s xs[j] ys[j] (r j))) :
    RcLt A s (.ref l) (.ref b) (firstLt e r (decide (xs.size < ys.size)) (List.range (min xs.size ys.size))) := fun prog w E Q h => by
  obtain ⟨⟨cls, dd, data, sl⟩, ho, hc, n, hd⟩ := id hl
  obtain ⟨⟨cls2, dd2, data2, sl2⟩, ho2, hc2, n2, hd2⟩ := id hb
  simp only at hc hd hc2 hd2
  subst hc hd hc2 hd2
  refine richCompare_meets_room (op := .Lt) ⟨_, ho, rfl⟩ ⟨_, ho2, rfl⟩ F.slot_tuple_lt F.entry_tuple_lt (F.args_tuple_lt_2 _ _) (sd_tupLt l b xs ys n n2 dd dd2 sl sl2 e r) ⟨ho, ho2, ha, ?_⟩ hu
  exact ⟨(fun x => nomatch x), h⟩
end PySem.SeqAt
namespace SD
open PySem PySem.Spec PyProof.Rows L2
/-- at the value u of the heap h stands the saying s -/
def SIs (h : Heap) : Say → Value → Prop
  | .no, u => ∃ a t, u = .ref a ∧ h.IsTuple a #[.str "no" t]
  | .letter c, u => ∃ a t t', u = .ref a ∧ h.IsTuple a #[.str "letter" t, .str c.str t']
  | .neg x, u => ∃ a t w, u = .ref a ∧ h.IsTuple a #[.str "not" t, w] ∧ SIs h x w
  | .shown x, u => ∃ a t w, u = .ref a ∧ h.IsTuple a #[.str "shown" t, w] ∧ SIs h x w
  | .bin o x y, u => ∃ a t w z, u = .ref a ∧ h.IsTuple a #[.str o.word t, w, z] ∧ SIs h x w ∧ SIs h y z
theorem SIs.ref {h : Heap} : ∀ {s : Say} {u : Value}, SIs h s u → ∃ a, u = .ref a
  | .no, _, ⟨a, _, e, _⟩ => ⟨a, e⟩
  | .letter _, _, ⟨a, _, _, e, _⟩ => ⟨a, e⟩
  | .neg _, _, ⟨a, _, _, e, _⟩ => ⟨a, e⟩
  | .shown _, _, ⟨a, _, _, e, _⟩ => ⟨a, e⟩
  | .bin _ _ _, _, ⟨a, _, _, _, e, _⟩ => ⟨a, e⟩
theorem IsTuple.keep {h h' : Heap} {a : Addr} {vs : Array Value} (k : ∀ b o, o.cls = .type "tuple" → h.get? b = some o → h'.get? b = some o) (x : h.IsTuple a vs) : h'.IsTuple a vs := by
  obtain ⟨o, ho, hc, q⟩ := x
  exact ⟨o, k _ _ hc ho, hc, q⟩
theorem SIs.keep {h h' : Heap} (k : ∀ b o, o.cls = .type "tuple" → h.get? b = some o → h'.get? b = some o) : ∀ {s : Say} {u : Value}, SIs h s u → SIs h' s u
  | .no, _, ⟨a, t, e, x⟩ => ⟨a, t, e, IsTuple.keep k x⟩
  | .letter _, _, ⟨a, t, t', e, x⟩ => ⟨a, t, t', e, IsTuple.keep k x⟩
  | .neg _, _, ⟨a, t, w, e, x, h1⟩ => ⟨a, t, w, e, IsTuple.keep k x, h1.keep k⟩
  | .shown _, _, ⟨a, t, w, e, x, h1⟩ => ⟨a, t, w, e, IsTuple.keep k x, h1.keep k⟩
  | .bin _ _ _, _, ⟨a, t, w, z, e, x, h1, h2⟩ => ⟨a, t, w, z, e, IsTuple.keep k x, h1.keep k, h2.keep k⟩
theorem reads_tup {h : Heap} {a : Addr} {vs : Array Value} {ds : List PyData} {as : List Addr} (x : h.IsTuple a vs) (r : ReadsAll h vs.toList ds as) : ∃ as', Reads h (.ref a) (.tuple ds) as' := by
  obtain ⟨o, ho, hc, n, hd⟩ := x
  exact ⟨_, Reads.tuple ho hc hd r⟩
theorem SIs.reads {h : Heap} : ∀ {s : Say} {u : Value}, SIs h s u → ∃ as, Reads h u s.data as
  | .no, _, ⟨a, t, e, x⟩ => by subst e; exact reads_tup x (.cons (.str _ _) .nil)
  | .letter _, _, ⟨a, t, t', e, x⟩ => by subst e; exact reads_tup x (.cons (.str _ _) (.cons (.str _ _) .nil))
  | .neg _, _, ⟨a, t, w, e, x, h1⟩ => by subst e; obtain ⟨_, r⟩ := h1.reads; exact reads_tup x (.cons (.str _ _) (.cons r .nil))
  | .shown _, _, ⟨a, t, w, e, x, h1⟩ => by subst e; obtain ⟨_, r⟩ := h1.reads; exact reads_tup x (.cons (.str _ _) (.cons r .nil))
  | .bin _ _ _, _, ⟨a, t, w, z, e, x, h1, h2⟩ => by subst e; obtain ⟨_, r⟩ := h1.reads; obtain ⟨_, r2⟩ := h2.reads; exact reads_tup x (.cons (.str _ _) (.cons r (.cons r2 .nil)))
theorem isTup_inj {h : Heap} {a : Addr} {vs ws : Array Value} (x : h.IsTuple a vs) (y : h.IsTuple a ws) : vs = ws := by
  obtain ⟨o, ho, _, n, hd⟩ := x
  obtain ⟨o', ho', _, n', hd'⟩ := y
  rw [ho] at ho'
  cases ho'
  rw [hd] at hd'
  injection hd'
theorem SIs.inj {h : Heap} {s t : Say} {u : Value} (h1 : SIs h s u) (h2 : SIs h t u) : s = t := by
  have len {α : Type} {a b : Array α} (e : a = b) : a.toList = b.toList := by rw [e]
  induction s generalizing t u with
  | no =>
    obtain ⟨a, t0, rfl, x⟩ := h1
    cases t with
    | no => rfl
    | letter d => obtain ⟨b, _, _, e, y⟩ := h2; cases e; have q := len (isTup_inj x y); simp at q
    | neg d => obtain ⟨b, _, _, e, y, _⟩ := h2; cases e; have q := len (isTup_inj x y); simp at q
    | shown d => obtain ⟨b, _, _, e, y, _⟩ := h2; cases e; have q := len (isTup_inj x y); simp at q
    | bin o c d => obtain ⟨b, _, _, _, e, y, _⟩ := h2; cases e; have q := len (isTup_inj x y); simp at q
  | letter c =>
    obtain ⟨a, t0, t1, rfl, x⟩ := h1
    cases t with
    | no => obtain ⟨b, _, e, y⟩ := h2; cases e; have q := len (isTup_inj x y); simp at q
    | letter d => obtain ⟨b, _, _, e, y⟩ := h2; cases e; have q := len (isTup_inj x y); simp at q; rw [lstr_inj q.2.1]
    | neg d => obtain ⟨b, _, _, e, y, _⟩ := h2; cases e; have q := len (isTup_inj x y); simp at q; exact absurd q.1.1 w_ne.2.1.1
    | shown d => obtain ⟨b, _, _, e, y, _⟩ := h2; cases e; have q := len (isTup_inj x y); simp at q; exact absurd q.1.1 w_ne.2.1.2
    | bin o c d => obtain ⟨b, _, _, _, e, y, _⟩ := h2; cases e; have q := len (isTup_inj x y); simp at q
  | neg x1 ih =>
    obtain ⟨a, t0, w, rfl, x, hk⟩ := h1
    cases t with
    | no => obtain ⟨b, _, e, y⟩ := h2; cases e; have q := len (isTup_inj x y); simp at q
    | letter d => obtain ⟨b, _, _, e, y⟩ := h2; cases e; have q := len (isTup_inj x y); simp at q; exact absurd q.1.1.symm w_ne.2.1.1
    | neg d => obtain ⟨b, _, _, e, y, hk'⟩ := h2; cases e; have q := len (isTup_inj x y); simp at q; obtain ⟨_, rfl⟩ := q; rw [ih hk hk']
    | shown d => obtain ⟨b, _, _, e, y, _⟩ := h2; cases e; have q := len (isTup_inj x y); simp at q; exact absurd q.1.1 w_ne.2.2
    | bin o c d => obtain ⟨b, _, _, _, e, y, _⟩ := h2; cases e; have q := len (isTup_inj x y); simp at q
  | shown x1 ih =>
    obtain ⟨a, t0, w, rfl, x, hk⟩ := h1
    cases t with
    | no => obtain ⟨b, _, e, y⟩ := h2; cases e; have q := len (isTup_inj x y); simp at q
    | letter d => obtain ⟨b, _, _, e, y⟩ := h2; cases e; have q := len (isTup_inj x y); simp at q; exact absurd q.1.1.symm w_ne.2.1.2
    | neg d => obtain ⟨b, _, _, e, y, _⟩ := h2; cases e; have q := len (isTup_inj x y); simp at q; exact absurd q.1.1.symm w_ne.2.2
    | shown d => obtain ⟨b, _, _, e, y, hk'⟩ := h2; cases e; have q := len (isTup_inj x y); simp at q; obtain ⟨_, rfl⟩ := q; rw [ih hk hk']
    | bin o c d => obtain ⟨b, _, _, _, e, y, _⟩ := h2; cases e; have q := len (isTup_inj x y); simp at q
  | bin o x1 x2 ih1 ih2 =>
    obtain ⟨a, t0, w, z, rfl, x, hk, hk2⟩ := h1
    cases t with
    | no => obtain ⟨b, _, e, y⟩ := h2; cases e; have q := len (isTup_inj x y); simp at q
    | letter d => obtain ⟨b, _, _, e, y⟩ := h2; cases e; have q := len (isTup_inj x y); simp at q
    | neg d => obtain ⟨b, _, _, e, y, _⟩ := h2; cases e; have q := len (isTup_inj x y); simp at q
    | shown d => obtain ⟨b, _, _, e, y, _⟩ := h2; cases e; have q := len (isTup_inj x y); simp at q
    | bin o' c d =>
      obtain ⟨b, _, _, _, e, y, hk', hk2'⟩ := h2
      cases e
      have q := len (isTup_inj x y)
      simp at q
      obtain ⟨⟨q1, _⟩, rfl, rfl⟩ := q
      rw [oword_inj q1, ih1 hk hk', ih2 hk2 hk2']
/-! ### the order of the words -/
def wlt (x y : Str) : Bool := decide (x.cps.toList < y.cps.toList)
theorem wlt_rank (s t : Say) (h : s.word ≠ t.word) : wlt s.word t.word = decide (Say.rank s < Say.rank t) := by
  have all : ∀ o : Op, ∀ o' : Op, o.word ≠ o'.word → wlt o.word o'.word = decide (Say.rankO o < Say.rankO o') := by intro o o'; cases o <;> cases o' <;> decide +kernel
  have a1 : ∀ o : Op, wlt o.word "no" = decide (Say.rankO o < 3) ∧ wlt o.word "letter" = decide (Say.rankO o < 2) ∧ wlt o.word "not" = decide (Say.rankO o < 4) ∧ wlt o.word "shown" = decide (Say.rankO o < 6) := by intro o; cases o <;> decide +kernel
  have a2 : ∀ o : Op, wlt "no" o.word = decide (3 < Say.rankO o) ∧ wlt "letter" o.word = decide (2 < Say.rankO o) ∧ wlt "not" o.word = decide (4 < Say.rankO o) ∧ wlt "shown" o.word = decide (6 < Say.rankO o) := by intro o; cases o <;> decide +kernel
  have a3 : wlt "no" "letter" = false ∧ wlt "no" "not" = true ∧ wlt "no" "shown" = true ∧ wlt "letter" "no" = true ∧ wlt "letter" "not" = true ∧ wlt "letter" "shown" = true ∧ wlt "not" "no" = false ∧ wlt "not" "letter" = false ∧ wlt "not" "shown" = true ∧ wlt "shown" "no" = false ∧ wlt "shown" "letter" = false ∧ wlt "shown" "not" = false := by decide +kernel
  cases s <;> cases t <;> first | exact absurd rfl h | skip
  all_goals simp only [Say.word, Say.rank] at h ⊢
  all_goals first | exact all _ _ h | exact (a1 _).1 | exact (a1 _).2.1 | exact (a1 _).2.2.1 | exact (a1 _).2.2.2 | exact (a2 _).1 | exact (a2 _).2.1 | exact (a2 _).2.2.1 | exact (a2 _).2.2.2 | simp [a3]
theorem word_rank {s t : Say} (h : s.word = t.word) : Say.rank s = Say.rank t := by
  cases s <;> cases t <;> first | rfl | skip
  all_goals simp only [Say.word] at h
  all_goals first | (exact absurd h w_ne.1.1) | (exact absurd h w_ne.1.2.1) | (exact absurd h w_ne.1.2.2) | (exact absurd h.symm w_ne.1.1) | (exact absurd h w_ne.2.1.1) | (exact absurd h w_ne.2.1.2) | (exact absurd h.symm w_ne.1.2.1) | (exact absurd h.symm w_ne.2.1.1) | (exact absurd h w_ne.2.2) | (exact absurd h.symm w_ne.1.2.2) | (exact absurd h.symm w_ne.2.1.2) | (exact absurd h.symm w_ne.2.2) | (exact absurd h (oword_ne _).1) | (exact absurd h (oword_ne _).2.1) | (exact absurd h (oword_ne _).2.2.1) | (exact absurd h (oword_ne _).2.2.2) | (exact absurd h.symm (oword_ne _).1) | (exact absurd h.symm (oword_ne _).2.1) | (exact absurd h.symm (oword_ne _).2.2.1) | (exact absurd h.symm (oword_ne _).2.2.2) | (rw [oword_inj h]; rfl)
theorem lt_words {s t : Say} (h : s.word ≠ t.word) : Say.lt s t = wlt s.word t.word := by
  have hr : Say.rank s ≠ Say.rank t := fun e => by
    rcases Say.kin e with ⟨rfl, rfl⟩ | ⟨_, _, rfl, rfl⟩ | ⟨_, _, rfl, rfl⟩ | ⟨_, _, rfl, rfl⟩ | ⟨_, _, _, _, _, rfl, rfl⟩ <;> exact h rfl
  rw [wlt_rank s t h, Say.lt_diff hr]
theorem lt_letters (c d : Ltr) : Say.lt (.letter c) (.letter d) = wlt c.str d.str := by cases c <;> cases d <;> decide +kernel
end SD
namespace SD
open PySem PySem.Spec PyProof.Rows L2
section
variable {A : Around} {s : Shared}
theorem eqAt_str (x y : Str) (t u : Tok) : SeqAt.EqAt A s (.str x t) (.str y u) (decide (x = y)) := fun prog w E Q h => wpAny_eqBool_str h
theorem rcLt_str (x y : Str) (t u : Tok) : SeqAt.RcLt A s (.str x t) (.str y u) (wlt x y) := fun prog w E Q h => (PyProof.Rows.lt_str h : wpAny (model prog w) A (compareOp .Lt (.str x t) (.str y u)) Q E s)
theorem eqAt_say {x y : Say} {u v : Value} (hx : SIs s.heap x u) (hy : SIs s.heap y v) (hu : A.units + (x.ht + 1) < cLine) : SeqAt.EqAt A s u v (decide (x = y)) := by
  obtain ⟨as, ra⟩ := hx.reads
  obtain ⟨bs, rb⟩ := hy.reads
  have q := SeqAt.eqAt_reads x.data y.data A s u v as bs ra rb (Say.data_lay x) (Say.data_lay y) (by rw [Say.data_depth]; omega)
  rw [Say.eqv] at q
  exact q
theorem lt_words0 {l b : Addr} {xs ys : Array Value} {x y : Str} {t u : Tok} (hl : s.heap.IsTuple l xs) (hb : s.heap.IsTuple b ys) (hx : xs[0]? = some (.str x t)) (hy : ys[0]? = some (.str y u)) (h : x ≠ y) (hu : A.units < cLine) :
    SeqAt.RcLt A s (.ref l) (.ref b) (wlt x y) := by
  have q := SeqAt.sd_rcLt (e := fun _ => false) (r := fun _ => wlt x y) hl hb hu fun j h1 h2 hk => by
    have j0 : j = 0 := by
      rcases Nat.eq_zero_or_pos j with e | e
      · exact e
      · exact absurd (hk 0 e) (by simp)
    subst j0
    obtain ⟨_, ex⟩ := Array.getElem?_eq_some_iff.mp hx
    obtain ⟨_, ey⟩ := Array.getElem?_eq_some_iff.mp hy
    rw [ex, ey]
    have e := eqAt_str (A := A.in1) (s := s) x y t u
    rw [decide_eq_false h] at e
    exact ⟨e, fun _ => rcLt_str x y t u⟩
  obtain ⟨h1, _⟩ := Array.getElem?_eq_some_iff.mp hx
  obtain ⟨h2, _⟩ := Array.getElem?_eq_some_iff.mp hy
  obtain ⟨n, hn⟩ : ∃ n, min xs.size ys.size = n + 1 := ⟨min xs.size ys.size - 1, by omega⟩
  rw [hn, List.range_succ_eq_map, SeqAt.firstLt_no rfl] at q
  exact q
theorem SIs.head {h : Heap} : ∀ {x : Say} {u : Value}, SIs h x u → ∃ a xs t, u = .ref a ∧ h.IsTuple a xs ∧ xs[0]? = some (.str x.word t)
  | .no, _, ⟨a, t, e, x⟩ => ⟨a, _, t, e, x, rfl⟩
  | .letter _, _, ⟨a, t, _, e, x⟩ => ⟨a, _, t, e, x, rfl⟩
  | .neg _, _, ⟨a, t, _, e, x, _⟩ => ⟨a, _, t, e, x, rfl⟩
  | .shown _, _, ⟨a, t, _, e, x, _⟩ => ⟨a, _, t, e, x, rfl⟩
  | .bin _ _ _, _, ⟨a, t, _, _, e, x, _⟩ => ⟨a, _, t, e, x, rfl⟩
theorem wlt_irrefl (x : Str) : wlt x x = false := decide_eq_false (List.lt_irrefl _)
/-- < of two sayings -/
theorem rcLt_say : ∀ (x : Say) {A : Around} {y : Say} {u v : Value}, SIs s.heap x u → SIs s.heap y v → A.units + (x.ht + 1) < cLine → SeqAt.RcLt A s u v (Say.lt x y) := by
  have nw : ∀ {A : Around} {x y : Say} {u v : Value}, SIs s.heap x u → SIs s.heap y v → A.units + (x.ht + 1) < cLine → x.word ≠ y.word → SeqAt.RcLt A s u v (Say.lt x y) := by
    intro A x y u v hx hy hu h
    obtain ⟨a, xs, t, rfl, h1, h2⟩ := hx.head
    obtain ⟨b, ys, t', rfl, h3, h4⟩ := hy.head
    rw [lt_words h]
    exact lt_words0 h1 h3 h2 h4 h (by omega)
  have in1 : ∀ A : Around, A.in1.units = A.units + 1 := fun A => rfl
  intro x
  induction x with
  | no =>
    intro A y u v hx hy hu
    by_cases h : Say.no.word = y.word
    · rcases Say.kin (word_rank h) with ⟨_, rfl⟩ | ⟨_, _, q, _⟩ | ⟨_, _, q, _⟩ | ⟨_, _, q, _⟩ | ⟨_, _, _, _, _, q, _⟩
      · obtain ⟨a, t, rfl, h1⟩ := hx
        obtain ⟨b, t', rfl, h2⟩ := hy
        refine SeqAt.sd_rcLt (e := fun _ => true) (r := fun _ => false) h1 h2 (by omega) fun j j1 j2 _ => ?_
        have j0 : j = 0 := by simp at j1; omega
        subst j0
        have e := eqAt_str (A := A.in1) (s := s) "no" "no" t t'
        rw [decide_eq_true rfl] at e
        exact ⟨e, fun z => nomatch z⟩
      all_goals cases q
    · exact nw hx hy hu h
  | letter c =>
    intro A y u v hx hy hu
    by_cases h : (Say.letter c).word = y.word
    · rcases Say.kin (word_rank h) with ⟨q, _⟩ | ⟨_, d, q, rfl⟩ | ⟨_, _, q, _⟩ | ⟨_, _, q, _⟩ | ⟨_, _, _, _, _, q, _⟩
      · cases q
      · obtain ⟨a, t, t1, rfl, h1⟩ := hx
        obtain ⟨b, t', t2, rfl, h2⟩ := hy
        have q := SeqAt.sd_rcLt (A := A) (e := fun j => if j = 0 then true else decide (c.str = d.str)) (r := fun _ => wlt c.str d.str) h1 h2 (by omega) fun j j1 j2 _ => by
          have j0 : j = 0 ∨ j = 1 := by simp at j1; omega
          rcases j0 with rfl | rfl
          · have e := eqAt_str (A := A.in1) (s := s) "letter" "letter" t t'
            rw [decide_eq_true rfl] at e
            exact ⟨e, fun z => nomatch z⟩
          · exact ⟨eqAt_str _ _ _ _, fun _ => rcLt_str _ _ _ _⟩
        rw [lt_letters]
        have e : SeqAt.firstLt (fun j => if j = 0 then true else decide (c.str = d.str)) (fun _ => wlt c.str d.str) (decide (2 < 2)) [0, 1] = wlt c.str d.str := by
          rw [SeqAt.firstLt_yes rfl]
          by_cases z : c.str = d.str
          · rw [SeqAt.firstLt_yes (by simp [z]), z, wlt_irrefl]; rfl
          · rw [SeqAt.firstLt_no (by simp [z])]
        rw [← e]
        exact q
      all_goals cases q
    · exact nw hx hy hu h
  | neg x1 ih =>
    intro A y u v hx hy hu
    by_cases h : (Say.neg x1).word = y.word
    · rcases Say.kin (word_rank h) with ⟨q, _⟩ | ⟨_, _, q, _⟩ | ⟨_, y1, q, rfl⟩ | ⟨_, _, q, _⟩ | ⟨_, _, _, _, _, q, _⟩
      · cases q
      · cases q
      · obtain ⟨a, t, w, rfl, h1, k1⟩ := hx
        obtain ⟨b, t', w', rfl, h2, k2⟩ := hy
        have hu' : A.in1.units + (x1.ht + 1) < cLine := by rw [in1]; simp only [Say.ht] at hu; omega
        have q := SeqAt.sd_rcLt (A := A) (e := fun j => if j = 0 then true else decide (x1 = y1)) (r := fun _ => Say.lt x1 y1) h1 h2 (by omega) fun j j1 j2 _ => by
          have j0 : j = 0 ∨ j = 1 := by simp at j1; omega
          rcases j0 with rfl | rfl
          · have e := eqAt_str (A := A.in1) (s := s) "not" "not" t t'
            rw [decide_eq_true rfl] at e
            exact ⟨e, fun z => nomatch z⟩
          · exact ⟨eqAt_say k1 k2 hu', fun _ => ih k1 k2 hu'⟩
        have e : SeqAt.firstLt (fun j => if j = 0 then true else decide (x1 = y1)) (fun _ => Say.lt x1 y1) (decide (2 < 2)) [0, 1] = Say.lt x1 y1 := by
          rw [SeqAt.firstLt_yes rfl]
          by_cases z : x1 = y1
          · rw [SeqAt.firstLt_yes (by simp [z]), z, Say.lt_irrefl]; rfl
          · rw [SeqAt.firstLt_no (by simp [z])]
        show SeqAt.RcLt A s _ _ (Say.lt x1 y1)
        rw [← e]
        exact q
      all_goals cases q
    · exact nw hx hy hu h
  | shown x1 ih =>
    intro A y u v hx hy hu
    by_cases h : (Say.shown x1).word = y.word
    · rcases Say.kin (word_rank h) with ⟨q, _⟩ | ⟨_, _, q, _⟩ | ⟨_, _, q, _⟩ | ⟨_, y1, q, rfl⟩ | ⟨_, _, _, _, _, q, _⟩
      · cases q
      · cases q
      · cases q
      · obtain ⟨a, t, w, rfl, h1, k1⟩ := hx
        obtain ⟨b, t', w', rfl, h2, k2⟩ := hy
        have hu' : A.in1.units + (x1.ht + 1) < cLine := by rw [in1]; simp only [Say.ht] at hu; omega
        have q := SeqAt.sd_rcLt (A := A) (e := fun j => if j = 0 then true else decide (x1 = y1)) (r := fun _ => Say.lt x1 y1) h1 h2 (by omega) fun j j1 j2 _ => by
          have j0 : j = 0 ∨ j = 1 := by simp at j1; omega
          rcases j0 with rfl | rfl
          · have e := eqAt_str (A := A.in1) (s := s) "shown" "shown" t t'
            rw [decide_eq_true rfl] at e
            exact ⟨e, fun z => nomatch z⟩
          · exact ⟨eqAt_say k1 k2 hu', fun _ => ih k1 k2 hu'⟩
        have e : SeqAt.firstLt (fun j => if j = 0 then true else decide (x1 = y1)) (fun _ => Say.lt x1 y1) (decide (2 < 2)) [0, 1] = Say.lt x1 y1 := by
          rw [SeqAt.firstLt_yes rfl]
          by_cases z : x1 = y1
          · rw [SeqAt.firstLt_yes (by simp [z]), z, Say.lt_irrefl]; rfl
          · rw [SeqAt.firstLt_no (by simp [z])]
        show SeqAt.RcLt A s _ _ (Say.lt x1 y1)
        rw [← e]
        exact q
      all_goals cases q
    · exact nw hx hy hu h
  | bin o x1 x2 ih1 ih2 =>
    intro A y u v hx hy hu
    by_cases h : (Say.bin o x1 x2).word = y.word
    · rcases Say.kin (word_rank h) with ⟨q, _⟩ | ⟨_, _, q, _⟩ | ⟨_, _, q, _⟩ | ⟨_, _, q, _⟩ | ⟨_, _, _, y1, y2, q, rfl⟩
      · cases q
      · cases q
      · cases q
      · cases q
      · cases q
        obtain ⟨a, t, w, z, rfl, h1, k1, k2⟩ := hx
        obtain ⟨b, t', w', z', rfl, h2, k3, k4⟩ := hy
        have hu1 : A.in1.units + (x1.ht + 1) < cLine := by rw [in1]; simp only [Say.ht] at hu; omega
        have hu2 : A.in1.units + (x2.ht + 1) < cLine := by rw [in1]; simp only [Say.ht] at hu; omega
        have q := SeqAt.sd_rcLt (A := A) (e := fun j => if j = 0 then true else if j = 1 then decide (x1 = y1) else decide (x2 = y2)) (r := fun j => if j = 1 then Say.lt x1 y1 else Say.lt x2 y2) h1 h2 (by omega) fun j j1 j2 _ => by
          have j0 : j = 0 ∨ j = 1 ∨ j = 2 := by simp at j1; omega
          rcases j0 with rfl | rfl | rfl
          · have e := eqAt_str (A := A.in1) (s := s) o.word o.word t t'
            rw [decide_eq_true rfl] at e
            exact ⟨e, fun z => nomatch z⟩
          · exact ⟨eqAt_say k1 k3 hu1, fun _ => ih1 k1 k3 hu1⟩
          · exact ⟨eqAt_say k2 k4 hu2, fun _ => ih2 k2 k4 hu2⟩
        have e : SeqAt.firstLt (fun j => if j = 0 then true else if j = 1 then decide (x1 = y1) else decide (x2 = y2)) (fun j => if j = 1 then Say.lt x1 y1 else Say.lt x2 y2) (decide (3 < 3)) [0, 1, 2] = Say.lt (.bin o x1 x2) (.bin o y1 y2) := by
          rw [SeqAt.firstLt_yes rfl, Say.lt_bin]
          by_cases z : x1 = y1
          · rw [SeqAt.firstLt_yes (by simp [z]), if_pos z]
            by_cases z2 : x2 = y2
            · rw [SeqAt.firstLt_yes (by simp [z2]), z2, Say.lt_irrefl]; rfl
            · rw [SeqAt.firstLt_no (by simp [z2])]; rfl
          · rw [SeqAt.firstLt_no (by simp [z]), if_neg z]; rfl
        rw [← e]
        exact q
    · exact nw hx hy hu h
end
/-! ### the sort's own < -/
section
variable {prog : Program} {w : World} {A : Around} {E : Value → Shared → Prop} {s : Shared}
open Classical in
/-- the saying that a value stands for -/
noncomputable def sayOf (h : Heap) (u : Value) : Say := if q : ∃ x, SIs h x u then q.choose else .no
theorem sayOf_eq {h : Heap} {x : Say} {u : Value} (hx : SIs h x u) : sayOf h u = x := by
  have q : ∃ x, SIs h x u := ⟨x, hx⟩
  unfold sayOf
  rw [dif_pos q]
  exact q.choose_spec.inj hx
theorem say_cmp {h₀ : Heap} {vs : List Value} (hp : ∀ v ∈ vs, ∃ x, SIs s.heap x v ∧ sayOf h₀ v = x ∧ A.units + (x.ht + 1) < cLine) :
    SrtO.Cmp prog w A s (tuples' true) (fun p => p.1 ∈ vs) (SrtO.lt2 fun v u => Say.lt (sayOf h₀ v) (sayOf h₀ u)) := by
  intro p q hm hm'
  obtain ⟨x, hx, ex, hux⟩ := hp _ hm
  obtain ⟨y, hy, ey, huy⟩ := hp _ hm'
  show wpAny (model prog w) A (keyLt' (tuples' true) p.1 q.1) (fun r s' => s' = s ∧ r = Say.lt (sayOf h₀ p.1) (sayOf h₀ q.1)) (fun _ _ => False) s
  rw [ex, ey]
  generalize p.1 = u at hx
  generalize q.1 = v at hy
  have eqw : ∀ (a b : Str) (t t' : Tok) {R : Bool → Shared → Prop}, R (decide (a = b)) s → wpAny (model prog w) A (eqBool (.str a t) (.str b t')) R (fun _ _ => False) s := fun a b t t' R hR => wpAny_eqBool_str hR
  by_cases h : x.word = y.word
  · rcases Say.kin (word_rank h) with ⟨rfl, rfl⟩ | ⟨c, d, rfl, rfl⟩ | ⟨x1, y1, rfl, rfl⟩ | ⟨x1, y1, rfl, rfl⟩ | ⟨o, x1, x2, y1, y2, rfl, rfl⟩
    · obtain ⟨a, t, rfl, o1, ho, hc, n, hd⟩ := hx
      obtain ⟨b, t', rfl, o2, ho', hc', n', hd'⟩ := hy
      refine PySem.W.kat_lt ho hd ho' hd' (PySem.W.kat_cons (eqw _ _ _ _ ?_))
      rw [decide_eq_true rfl]
      exact PySem.W.kat_yes (PySem.W.kat_nil ⟨rfl, by simp [Say.lt]⟩)
    · obtain ⟨a, t, t1, rfl, o1, ho, hc, n, hd⟩ := hx
      obtain ⟨b, t', t2, rfl, o2, ho', hc', n', hd'⟩ := hy
      refine PySem.W.kat_lt ho hd ho' hd' (PySem.W.kat_cons (eqw _ _ _ _ ?_))
      rw [decide_eq_true rfl]
      refine PySem.W.kat_yes (PySem.W.kat_cons (eqw _ _ _ _ ?_))
      refine PySem.W.kat_go (fun e => PySem.W.kat_yes (PySem.W.kat_nil ⟨rfl, ?_⟩)) (fun e => PySem.W.kat_no (PyProof.Rows.oneLt_any_str ⟨rfl, ?_⟩))
      · rw [lt_letters, of_decide_eq_true e, wlt_irrefl]; simp
      · rw [lt_letters]; rfl
    · obtain ⟨a, t, w1, rfl, ⟨o1, ho, hc, n, hd⟩, k1⟩ := hx
      obtain ⟨b, t', w2, rfl, ⟨o2, ho', hc', n', hd'⟩, k2⟩ := hy
      have hu1 : A.units + (x1.ht + 1) < cLine := by simp only [Say.ht] at hux; omega
      refine PySem.W.kat_lt ho hd ho' hd' (PySem.W.kat_cons (eqw _ _ _ _ ?_))
      rw [decide_eq_true rfl]
      refine PySem.W.kat_yes (PySem.W.kat_cons (eqAt_say k1 k2 hu1 prog w _ _ ?_))
      refine PySem.W.kat_go (fun e => PySem.W.kat_yes (PySem.W.kat_nil ⟨rfl, ?_⟩)) (fun e => PySem.W.kat_no (PySem.W.kat_one _ _ (rcLt_say x1 k1 k2 hu1 prog w _ _ ⟨rfl, rfl⟩)))
      show _ = Say.lt x1 y1
      rw [of_decide_eq_true e, Say.lt_irrefl]; simp
    · obtain ⟨a, t, w1, rfl, ⟨o1, ho, hc, n, hd⟩, k1⟩ := hx
      obtain ⟨b, t', w2, rfl, ⟨o2, ho', hc', n', hd'⟩, k2⟩ := hy
      have hu1 : A.units + (x1.ht + 1) < cLine := by simp only [Say.ht] at hux; omega
      refine PySem.W.kat_lt ho hd ho' hd' (PySem.W.kat_cons (eqw _ _ _ _ ?_))
      rw [decide_eq_true rfl]
      refine PySem.W.kat_yes (PySem.W.kat_cons (eqAt_say k1 k2 hu1 prog w _ _ ?_))
      refine PySem.W.kat_go (fun e => PySem.W.kat_yes (PySem.W.kat_nil ⟨rfl, ?_⟩)) (fun e => PySem.W.kat_no (PySem.W.kat_one _ _ (rcLt_say x1 k1 k2 hu1 prog w _ _ ⟨rfl, rfl⟩)))
      show _ = Say.lt x1 y1
      rw [of_decide_eq_true e, Say.lt_irrefl]; simp
    · obtain ⟨a, t, w1, z1, rfl, ⟨o1, ho, hc, n, hd⟩, k1, k3⟩ := hx
      obtain ⟨b, t', w2, z2, rfl, ⟨o2, ho', hc', n', hd'⟩, k2, k4⟩ := hy
      have hu1 : A.units + (x1.ht + 1) < cLine := by simp only [Say.ht] at hux; omega
      have hu2 : A.units + (x2.ht + 1) < cLine := by simp only [Say.ht] at hux; omega
      refine PySem.W.kat_lt ho hd ho' hd' (PySem.W.kat_cons (eqw _ _ _ _ ?_))
      rw [decide_eq_true rfl]
      refine PySem.W.kat_yes (PySem.W.kat_cons (eqAt_say k1 k2 hu1 prog w _ _ ?_))
      refine PySem.W.kat_go (fun e => PySem.W.kat_yes (PySem.W.kat_cons (eqAt_say k3 k4 hu2 prog w _ _ ?_))) (fun e => PySem.W.kat_no (PySem.W.kat_one _ _ (rcLt_say x1 k1 k2 hu1 prog w _ _ ⟨rfl, ?_⟩)))
      · refine PySem.W.kat_go (fun e2 => PySem.W.kat_yes (PySem.W.kat_nil ⟨rfl, ?_⟩)) (fun e2 => PySem.W.kat_no (PySem.W.kat_one _ _ (rcLt_say x2 k3 k4 hu2 prog w _ _ ⟨rfl, ?_⟩)))
        · rw [Say.lt_bin, if_pos (of_decide_eq_true e), of_decide_eq_true e2, Say.lt_irrefl]; simp
        · rw [Say.lt_bin, if_pos (of_decide_eq_true e)]
      · rw [Say.lt_bin, if_neg (of_decide_eq_false e)]
  · have wl := lt_words h
    obtain ⟨a, xs, t, rfl, ⟨o1, ho, hc, n, hd⟩, e1⟩ := hx.head
    obtain ⟨b, ys, t', rfl, ⟨o2, ho', hc', n', hd'⟩, e2⟩ := hy.head
    refine PySem.W.kat_lt ho hd ho' hd' ?_
    obtain ⟨xs⟩ := xs
    obtain ⟨ys⟩ := ys
    cases xs with
    | nil => simp at e1
    | cons x0 xr =>
      cases ys with
      | nil => simp at e2
      | cons y0 yr =>
        simp at e1 e2
        subst e1 e2
        refine PySem.W.kat_cons (eqw _ _ _ _ ?_)
        rw [decide_eq_false h]
        exact PySem.W.kat_no (PyProof.Rows.oneLt_any_str ⟨rfl, wl.symm⟩)
end
end SD
/-! # max(.., default=d) -/
namespace PySem
section
variable {prog : Program} {w : World} {A : Around} {R : Result → Shared → Prop} {I : Addr} {fp wr : List Addr} {n : Nat} {P : Nat → Value → Prop} {St : Nat → Heap → Prop} {dv : Value}
abbrev sdKw (dv : Value) : List (Str × Value) := [(Str.ofString "default", dv)]
theorem sd_max_more (W : Walks prog w A.in1 I fp wr n P St) (bt : Nat → Nat → Bool) (hcmp : CmpOf prog w A.in1 .Gt P bt) (L : Addr) (hLf : L ∉ fp) :
    ∀ (k j : Nat) (s : Shared) (vb : Value) (c : Nat), n - (j + 1) = k → j + 1 ≤ n → St (j + 1) s.heap → P (argBest bt j) vb →
    s.heap.get? L = some { cls := .type "list", dict := none, data := .seq #[vb, vb] c, slots := #[] } →
    (∀ v h' tk, P (argBest bt (n - 1)) v → (∀ b o, b ∉ wr → b ≠ L → s.heap.get? b = some o → h'.get? b = some o) → R (.ok (.ret v)) { s with heap := h', toks := tk }) →
    codeAny (model prog w) A (.builtin "max.loop" ⟨[.ref I, .none, .ref L], sdKw dv⟩) R s := by
  have hLw : L ∉ wr := fun h => hLf (W.sub _ h)
  have nm : (toString "max" ++ toString ".loop" : String) = "max.loop" := by decide
  intro k
  induction k with
  | zero =>
    intro j s vb c hk hj hst hPb hL hR
    have hin : j + 1 = n := by omega
    refine codeAny_builtin F.entry_max_loop ?_
    rw [Around.under_plainId F.plain_max_loop _]
    show wpAny _ A.in1 (seqItems? (.ref L) >>= _) _ _ s
    refine wpAny_bind (wpAny_seqItems hL rfl ?_)
    show wpAny _ A.in1 (tryCatch (pyNext (.ref I)) _ >>= _) _ _ s
    refine wpAny_bind (wpAny_tryCatch (W.done s _ _ (hin ▸ hst) fun h' tk hk' => ?_))
    have hL' := hk' L _ hLw hL
    show wpAny _ A.in1 (updateSeq L (fun _ => #[]) >>= _) _ _ _
    refine wpAny_bind (wpAny_updateSeq hL' rfl (wpAny_bind (wpAny_letGo (wpAny_pure ?_))))
    exact hR vb _ tk (by rw [← hin]; exact hPb) fun b o hbw hbL e => (Heap.get?_update_other _ _ (Ne.symm hbL)).trans (hk' b o hbw e)
  | succ k ih =>
    intro j s vb c hk hj hst hPb hL hR
    have hlt : j + 1 < n := by omega
    refine codeAny_builtin F.entry_max_loop ?_
    rw [Around.under_plainId F.plain_max_loop _]
    show wpAny _ A.in1 (seqItems? (.ref L) >>= _) _ _ s
    refine wpAny_bind (wpAny_seqItems hL rfl ?_)
    show wpAny _ A.in1 (tryCatch (pyNext (.ref I)) _ >>= _) _ _ s
    refine wpAny_bind (wpAny_tryCatch (W.item (j + 1) s _ _ hlt hst fun v h' tk hP hst' hk' => ?_))
    have hL' := hk' L _ hLw hL
    show wpAny _ A.in1 (tryCatch (holding [v, v] (richCompare .Gt v vb >>= _)) _ >>= _) _ _ _
    refine wpAny_bind (wpAny_tryCatch (wpAny_holding (wpAny_bind (hcmp (j + 1) (argBest bt j) v vb _ _ _ hP hPb ?_))))
    refine wpAny_bind (wpAny_holding (wpAny_truthy_bool ?_))
    refine wpAny_bind (wpAny_letGo (wpAny_pure ?_))
    cases hb : bt (j + 1) (argBest bt j) with
    | true =>
      simp only [if_true]
      refine wpAny_bind (wpAny_updateSeq hL' rfl (wpAny_bind (wpAny_letGo ?_)))
      rw [nm]
      refine wpAny_pure ⟨plainId_quiet F.plain_max_loop _, ih (j + 1) _ v _ (by omega) hlt (W.frame _ _ _ hst' fun b hbf o e => ?_) (by simp only [argBest, hb, if_true]; exact hP) (Heap.get?_update_self _ hL' rfl)
        fun v' h'' tk'' hP' hk'' => ?_⟩
      · exact (Heap.get?_update_other _ _ (fun h : L = b => hLf (by rw [h]; exact hbf))).trans e
      · exact hR v' h'' tk'' hP' fun b o hbw hbL e => hk'' b o hbw hbL ((Heap.get?_update_other _ _ (Ne.symm hbL)).trans (hk' b o hbw e))
    | false =>
      simp only [Bool.false_eq_true, if_false]
      refine wpAny_bind (wpAny_letGo ?_)
      rw [nm]
      refine wpAny_pure ⟨plainId_quiet F.plain_max_loop _, ih (j + 1) _ vb c (by omega) hlt hst' (by simp only [argBest, hb, Bool.false_eq_true, if_false]; exact hPb) hL' fun v' h'' tk'' hP' hk'' => ?_⟩
      exact hR v' h'' tk'' hP' fun b o hbw hbL e => hk'' b o hbw hbL (hk' b o hbw e)
theorem sd_max_first (W : Walks prog w A.in1 I fp wr n P St) (bt : Nat → Nat → Bool) (hcmp : CmpOf prog w A.in1 .Gt P bt) (L : Addr) (hLf : L ∉ fp) {s : Shared} {c : Nat} (hst : St 0 s.heap)
    (hL : s.heap.get? L = some { cls := .type "list", dict := none, data := .seq #[] c, slots := #[] })
    (h0 : n = 0 → ∀ h' tk, (∀ b o, b ∉ wr → b ≠ L → s.heap.get? b = some o → h'.get? b = some o) → R (.ok (.ret dv)) { s with heap := h', toks := tk })
    (hR : 0 < n → ∀ v h' tk, P (argBest bt (n - 1)) v → (∀ b o, b ∉ wr → b ≠ L → s.heap.get? b = some o → h'.get? b = some o) → R (.ok (.ret v)) { s with heap := h', toks := tk }) :
    codeAny (model prog w) A (.builtin "max.loop" ⟨[.ref I, .none, .ref L], sdKw dv⟩) R s := by
  have hLw : L ∉ wr := fun h => hLf (W.sub _ h)
  have nm : (toString "max" ++ toString ".loop" : String) = "max.loop" := by decide
  refine codeAny_builtin F.entry_max_loop ?_
  rw [Around.under_plainId F.plain_max_loop _]
  show wpAny _ A.in1 (seqItems? (.ref L) >>= _) _ _ s
  refine wpAny_bind (wpAny_seqItems hL rfl ?_)
  show wpAny _ A.in1 (tryCatch (pyNext (.ref I)) _ >>= _) _ _ s
  rcases Nat.eq_zero_or_pos n with hn | hn
  · refine wpAny_bind (wpAny_tryCatch (W.done s _ _ (hn ▸ hst) fun h' tk hk' => ?_))
    show wpAny _ A.in1 (rule (toString "max" ++ toString ".default") >>= _) _ _ _
    refine wpAny_bind (wpAny_rule (wpAny_pure ?_))
    exact h0 hn h' tk fun b o hbw _ e => hk' b o hbw e
  · refine wpAny_bind (wpAny_tryCatch (W.item 0 s _ _ hn hst fun v h' tk hP hst' hk' => ?_))
    have hL' := hk' L _ hLw hL
    show wpAny _ A.in1 (updateSeq L (fun _ => #[v, v]) >>= _) _ _ _
    refine wpAny_bind (wpAny_updateSeq hL' rfl ?_)
    rw [nm]
    refine wpAny_pure ⟨plainId_quiet F.plain_max_loop _, sd_max_more W bt hcmp L hLf _ 0 _ v _ rfl hn (W.frame _ _ _ hst' fun b hbf o e => ?_) hP (Heap.get?_update_self _ hL' rfl) fun v' h'' tk'' hP' hk'' => ?_⟩
    · exact (Heap.get?_update_other _ _ (fun h : L = b => hLf (by rw [h]; exact hbf))).trans e
    · exact hR hn v' h'' tk'' hP' fun b o hbw hbL e => hk'' b o hbw hbL ((Heap.get?_update_other _ _ (Ne.symm hbL)).trans (hk' b o hbw e))
end
section
variable {prog : Program} {w : World} {A : Around} {E : Value → Shared → Prop} {s : Shared}
theorem sd_call_tree_kw {id : String} {b : Builtin} {args : List Value} {kw : List (Str × Value)} {Q : Value → Shared → Prop} (hk : builtinKind id = none) (hp : plainId id = true) (hb : entryFor table id = some b) (ha : argsOk id ⟨args, kw⟩)
    (hc : wpAny (model prog w) A.in1 (b ⟨args, kw⟩) (fun fin s' => match fin with
      | .done f => (match (Except.ok f : Result) with | .ok (.ret v) => Q v s' | .ok _ => False | .error e => E e s')
      | .again c' => c'.quiet = true ∧ codeAny (model prog w) A c' (fun r s' => match r with | .ok (.ret v) => Q v s' | .ok _ => False | .error e => E e s') s') E s) :
    wpAny (model prog w) A (call (.builtin id) args kw) Q E s := by
  refine wpAny_call (codeAny_call_builtin hp hb ?_)
  simp only [checkBuiltinCall, hk]
  cases hsig : Manifest.signature? id with
  | none => exact wpAny_pure hc
  | some sig =>
    have ha' : Bind.checkArgs id sig ⟨args, kw⟩ = pure () := by simpa only [argsOk, hsig] using ha
    simp only [ha']
    exact wpAny_pure hc
theorem sd_args_max (a d : Value) : argsOk "max" ⟨[a], sdKw d⟩ := by unfold argsOk; kernel_rfl
theorem sd_call_max {x dv : Value} {Q : Value → Shared → Prop}
    (h : wpAny (model prog w) A.in1 (pyIter x) (fun it s₂ => ∃ I fp wr n P St bt, it = .ref I ∧ Walks prog w A.in1 I fp wr n P St ∧ St 0 s₂.heap ∧ (∀ b ∈ fp, b < s₂.heap.objs.size) ∧ CmpOf prog w A.in1 .Gt P bt ∧
      (n = 0 → ∀ h' tk, (∀ b o, b ∉ wr → s₂.heap.get? b = some o → h'.get? b = some o) → Q dv { s₂ with heap := h', toks := tk }) ∧
      (0 < n → ∀ v h' tk, P (argBest bt (n - 1)) v → (∀ b o, b ∉ wr → s₂.heap.get? b = some o → h'.get? b = some o) → Q v { s₂ with heap := h', toks := tk })) E s) :
    wpAny (model prog w) A (call (.builtin "max") [x] (sdKw dv)) Q E s := by
  have nm : (toString "max" ++ toString ".loop" : String) = "max.loop" := by decide
  refine sd_call_tree_kw F.kind_max F.plain_max F.entry_max (sd_args_max _ _) ?_
  show wpAny _ A.in1 (Builtin.Builtins.bindParams "max" ["key", "default"] 0 ⟨[], sdKw dv⟩ >>= _) _ _ s
  refine wpAny_bind (wpAny_of_eq (show Builtin.Builtins.bindParams "max" ["key", "default"] 0 ⟨[], sdKw dv⟩ = pure [none, some dv] from rfl) ?_)
  refine wpAny_bind (wpAny_pure ?_)
  refine wpAny_bind (wpAny_mono h (fun it s₂ h₂ => ?_) fun _ _ e => e)
  obtain ⟨I, fp, wr, n, P, St, bt, rfl, W, hst, hfp, hcmp, hQ0, hQ⟩ := h₂
  refine wpAny_bind (wpAny_newObj_type ?_)
  have hLf : s₂.heap.objs.size ∉ fp := fun hm => Nat.lt_irrefl _ (hfp _ hm)
  rw [nm]
  refine wpAny_pure ⟨plainId_quiet F.plain_max_loop _, sd_max_first W bt hcmp s₂.heap.objs.size hLf (W.frame _ _ _ hst fun b _ o e => Heap.get?_push_of_some _ e) (Heap.get?_push_size _ rfl) (fun hn h' tk hk => ?_) fun hn v h' tk hP hk => ?_⟩
  · exact hQ0 hn h' tk fun b o hbw e => hk b o hbw (Nat.ne_of_lt (Heap.lt_size e)) (Heap.get?_push_of_some _ e)
  · exact hQ hn v h' tk hP fun b o hbw e => hk b o hbw (Nat.ne_of_lt (Heap.lt_size e)) (Heap.get?_push_of_some _ e)
end
end PySem
namespace PySem
section
variable {prog : Program} {w : World} {A : Around} {E : Value → Shared → Prop} {s : Shared} {l : Addr} {xs : Array (Int × Tok)}
theorem sd_max_ints {dv : Value} {Q : Value → Shared → Prop} (hh : A.handled = none) (hl : s.heap.IsList l (intItems xs))
    (h0 : xs.size = 0 → ∀ h' tk, (∀ b o, s.heap.get? b = some o → h'.get? b = some o) → Q dv { s with heap := h', toks := tk })
    (h : 0 < xs.size → ∀ v h' tk, (intItems xs)[argBest (fun i j => decide (numAt xs i > numAt xs j)) (xs.size - 1)]? = some v → (∀ b o, s.heap.get? b = some o → h'.get? b = some o) → Q v { s with heap := h', toks := tk }) :
    wpAny (model prog w) A (call (.builtin "max") [.ref l] (sdKw dv)) Q E s := by
  refine sd_call_max (iter_intList hl fun s₂ e st hfp hlI => ?_)
  subst e
  refine ⟨_, _, _, _, _, _, _, rfl, Walks.list (A := A.in1) hh _ l hlI (intItems xs), st, hfp, CmpOf.ints_gt (numAt xs) (fun _ _ => intItems_at), fun hn h' tk hk => ?_, fun hn v h' tk hP hk => ?_⟩
  · exact h0 (by simpa [intItems] using hn) h' tk (old_kept hk)
  · exact h (by simpa [intItems] using hn) v h' tk (by simpa [intItems] using hP) (old_kept hk)
end
end PySem
namespace SD
open PySem PySem.Spec PyProof.Rows L2
section
variable {prog : Program} {w : World} {A : Around} {E : Value → Shared → Prop} {s : Shared} {l : Addr} {its : List Value} {ns : List Int}
theorem maxd_raw {dv : Value} {Q : Value → Shared → Prop} (hh : A.handled = none) (hl : s.heap.IsList l its.toArray) (hi : IntsAre its ns)
    (h0 : ns = [] → ∀ h' tk, (∀ b o, s.heap.get? b = some o → h'.get? b = some o) → Q dv { s with heap := h', toks := tk })
    (h : ∀ h' tk M t', (∀ b o, s.heap.get? b = some o → h'.get? b = some o) → M ∈ ns → (∀ a, a ∈ ns → a ≤ M) → Q (.int M t') { s with heap := h', toks := tk }) : wpAny (model prog w) A (call (.builtin "max") [.ref l] (PySem.sdKw dv)) Q E s := by
  obtain ⟨xs, e⟩ := hi.allInts.items
  have hn : numsOf (intItems xs).toList = ns := by rw [← e]; exact hi.numsOf
  rw [nums_intItems] at hn
  subst hn
  rw [e] at hl
  refine PySem.sd_max_ints hh hl (fun hz h' tk hk => ?_) fun hsz v h' tk hv hk => ?_
  · refine h0 ?_ h' tk hk
    have : xs.toList.length = 0 := by simpa using hz
    rw [List.eq_nil_of_length_eq_zero this]; rfl
  obtain ⟨t, rfl⟩ := intItems_at hv
  obtain ⟨h1, h2⟩ := argBest_gt (numAt xs) (xs.size - 1)
  refine h h' tk _ t hk ?_ fun a ha => ?_
  · rw [numAt_eq]; exact PySem.getD_mem (by rw [List.length_map, Array.length_toList]; omega)
  · obtain ⟨j, hj, rfl⟩ := mem_getD ha
    rw [List.length_map, Array.length_toList] at hj
    rw [← numAt_eq]; exact h2 j (by omega)
variable {X : Cx}
/-- max(xs, default=d) of whole numbers -/
def rMaxD (K : PySem.W.Frag) : List V → List V → Hp → VK → Prop := fun vs zs H Q => ∃ (a : Addr) (ns : List Int) (d : Int), vs = [V.ref a] ∧ zs = [.int d] ∧ SqL K H a (ns.map V.int) ∧ (ns = [] → Q (.int d) H) ∧ ∀ m, m ∈ ns → (∀ y, y ∈ ns → y ≤ m) → Q (.int m) H
theorem cr_maxD (hc : X.calm = true) : CallRK X (.builtin "max") [Str.ofString "default"] (rMaxD X.K) := by
  intro pins s σ H vs zs us ws Q I r rz h
  obtain ⟨a, ns, d, rfl, rfl, hs, q0, q⟩ := h
  obtain ⟨its, rv, hl, _⟩ := I.list hs
  rw [Vals.ref1 r]
  obtain ⟨u, rfl, ru⟩ := vals1 rz
  obtain ⟨t, rfl⟩ := ru
  exact maxd_raw (I.ok.hd hc) hl.isList rv.ints (fun e h' tk hk => ⟨.int _, H, I.kept hk, ⟨_, rfl⟩, q0 e⟩) fun h' tk m t' hk h1 h2 => ⟨.int _, H, I.kept hk, ⟨_, rfl⟩, q m h1 h2⟩
/-! ### sorted of sayings -/
variable {pins : List (Addr × Obj)} {σ : L2.St} {H : Hp}
theorem istup {h : Heap} {a : Addr} {vs : Array Value} (x : IsTup h a vs) : h.IsTuple a vs := by
  obtain ⟨o, ho, hc, n, hd⟩ := x
  exact ⟨o, ho, hc, n, hd⟩
theorem SayAt.sis (I : Inv X pins σ H s) : ∀ {x : Say} {v : V} {u : Value}, SayAt H x v → RelV v u → SIs s.heap x u
  | .no, _, u, ⟨a, e, h⟩, r => by
    subst e
    obtain ⟨_, its, rv, ht⟩ := I.hok _ _ h
    obtain ⟨u1, rfl, t, rfl⟩ := vals1 rv
    exact ⟨a, t, r, istup ht⟩
  | .letter c, _, u, ⟨a, e, h⟩, r => by
    subst e
    obtain ⟨_, its, rv, ht⟩ := I.hok _ _ h
    obtain ⟨u1, u2, rfl, ⟨t, rfl⟩, ⟨t', rfl⟩⟩ := vals2 rv
    exact ⟨a, t, t', r, istup ht⟩
  | .neg x, _, u, ⟨a, w, e, h, h1⟩, r => by
    subst e
    obtain ⟨_, its, rv, ht⟩ := I.hok _ _ h
    obtain ⟨u1, u2, rfl, ⟨t, rfl⟩, r2⟩ := vals2 rv
    exact ⟨a, t, u2, r, istup ht, SayAt.sis I h1 r2⟩
  | .shown x, _, u, ⟨a, w, e, h, h1⟩, r => by
    subst e
    obtain ⟨_, its, rv, ht⟩ := I.hok _ _ h
    obtain ⟨u1, u2, rfl, ⟨t, rfl⟩, r2⟩ := vals2 rv
    exact ⟨a, t, u2, r, istup ht, SayAt.sis I h1 r2⟩
  | .bin o x y, _, u, ⟨a, w, z, e, h, h1, h2⟩, r => by
    subst e
    obtain ⟨_, its, rv, ht⟩ := I.hok _ _ h
    cases rv with
    | cons ra rv =>
      obtain ⟨t, rfl⟩ := ra
      obtain ⟨u2, u3, rfl, r2, r3⟩ := vals2 rv
      exact ⟨a, t, u2, u3, r, istup ht, SayAt.sis I h1 r2, SayAt.sis I h2 r3⟩
theorem SayAt.ref {H : Hp} {x : Say} {v : V} (h : SayAt H x v) : ∃ a, v = .ref a := by
  obtain ⟨a, r, e, _⟩ := h.tup
  exact ⟨a, e⟩
/-- what the items of a list of sayings are, value by value -/
theorem says_back (I : Inv X pins σ H s) : ∀ {ss : List Say} {vs : List V} {its : List Value}, SaysAt H ss vs → Vals vs its →
    ss = its.map (sayOf s.heap) ∧ ∀ u ∈ its, SIs s.heap (sayOf s.heap u) u ∧ SayAt H (sayOf s.heap u) (backV u)
  | _, _, _, .nil, .nil => ⟨rfl, fun u hu => absurd hu (by simp)⟩
  | _, _, _, .cons h t, .cons r rt => by
    obtain ⟨e, q⟩ := says_back I t rt
    have hs := h.sis I r
    have es := sayOf_eq hs
    obtain ⟨a, rfl⟩ := h.ref
    cases r
    refine ⟨by rw [List.map_cons, es, ← e], fun u hu => ?_⟩
    rcases List.mem_cons.mp hu with rfl | hu
    · rw [es]
      exact ⟨hs, h⟩
    · exact q u hu
theorem saysAt_of {H : Hp} {f : Value → Say} : ∀ {us : List Value}, (∀ u ∈ us, SayAt H (f u) (backV u)) → SaysAt H (us.map f) (us.map backV)
  | [], _ => .nil
  | u :: us, h => .cons (h u List.mem_cons_self) (saysAt_of fun y hy => h y (List.mem_cons_of_mem _ hy))
theorem firsts_says {h : Heap} {f : Value → Say} : ∀ {vs : List Value}, (∀ v ∈ vs, SIs h (f v) v) → ∃ fs, PySem.W.KatTups h vs fs ∧ fs.length = vs.length ∧ ∀ x ∈ fs, ∃ z t, x = Value.str z t
  | [], _ => ⟨[], trivial, rfl, fun x hx => absurd hx (by simp)⟩
  | v :: vs, hp => by
    obtain ⟨fs, h1, h2, h3⟩ := firsts_says (vs := vs) fun v hv => hp v (List.mem_cons_of_mem _ hv)
    obtain ⟨a, xs, t, rfl, ⟨o, ho, hc, n, hd⟩, hf⟩ := (hp v List.mem_cons_self).head
    refine ⟨_ :: fs, PySem.W.KatTups.cons ho hc hd hf h1, by simp [h2], fun x hx => ?_⟩
    rcases List.mem_cons.mp hx with rfl | hx
    · exact ⟨_, _, rfl⟩
    · exact h3 x hx
/-- sorted(xs) of sayings -/
def rSortedY (K : PySem.W.Frag) : List V → Hp → VK → Prop := fun vs H Q => ∃ (a : Addr) (xs : List V) (ss : List Say), vs = [V.ref a] ∧ SqL K H a xs ∧ SaysAt H ss xs ∧ (∀ s ∈ ss, s.ht ≤ 180) ∧
  ∀ (ts : List Say) (ys : List V) (p : Addr), SaysAt H ts ys → (ts.Pairwise fun a b => Say.lt b a = false) → ts.Perm ss → H p = none → Q (.ref p) (upd H p (.lst ys))
theorem cr_sortedY {k : Nat} (hr : Room k X.A) : CallR X (.builtin "sorted") (rSortedY X.K) := by
  intro pins s σ H vs us Q I r h
  obtain ⟨a, xs, ss, rfl, hs, hss, hht, q⟩ := h
  obtain ⟨its, rv, hl, hz⟩ := I.list hs
  rw [Vals.ref1 r]
  obtain ⟨e1, e2⟩ := says_back I hss rv
  have hz' : its.length ≤ sizeLine := by rw [← rv.length]; exact hz
  have swo : SrtO.Swo fun v u => Say.lt (sayOf s.heap v) (sayOf s.heap u) := ⟨fun x y h => Say.lt_asym h, fun x y z h h' => Say.lt_neg h h'⟩
  refine SrtO.sorted_ord swo hl.isList hz' (fun h2 h₁ b hb kk h' keep => ?_) fun out h1 h2 => ?_
  · have kt : ∀ c o, o.cls = .type "tuple" → s.heap.get? c = some o → h'.get? c = some o := fun c o _ e => keep c o (kk c o e).1 (kk c o e).2
    have hp : ∀ v ∈ its, SIs h' (sayOf s.heap v) v := fun v hv => (e2 v hv).1.keep kt
    obtain ⟨fs, g1, g2, g3⟩ := firsts_says hp
    refine ⟨tuples' true, fun Q E hq => ?_, say_cmp (s := { s with heap := h' }) fun v hv => ⟨_, hp v hv, rfl, ?_⟩⟩
    · refine PySem.W.kat_kind (T := .type "str") g1 (by omega) (fun f hm => ?_) (by rfl) ?_
      · obtain ⟨z, t, rfl⟩ := g3 f hm
        exact PySem.W.Looks.now
      · have e : (Value.type "str" != Value.type "tuple") = true := by first | decide +kernel | rfl | decide
        rw [e]
        exact hq
    · have hm : sayOf s.heap v ∈ ss := by rw [e1]; exact List.mem_map.mpr ⟨v, hv, rfl⟩
      have := hht _ hm
      have := hr.un
      show X.A.units + 1 + 1 + _ < _
      omega
  · have hd : s.heap.objs.size ≤ s.heap.objs.size + 1 := Nat.le_succ _
    obtain ⟨n, hn⟩ := PyProof.Rows.sortedAll_at s.heap its out.toArray
    have h3 : ∀ u ∈ out, ∃ a, u = Value.ref a := fun u hu => (e2 u (h2.perm.mem_iff.mp hu)).1.ref
    refine ⟨.ref (s.heap.objs.size + 1), upd H (s.heap.objs.size + 1) (.lst (out.map backV)), I.laid (t' := s.toks) (fun b o e => PyProof.Rows.sortedAll_old e) hd ⟨?_, out, n, vals_back h3, hn⟩, rfl, ?_⟩
    · rw [List.length_map, h2.perm.length_eq]; exact hz'
    · refine q (out.map (sayOf s.heap)) _ _ (saysAt_of fun u hu => (e2 u (h2.perm.mem_iff.mp hu)).2) ?_ ?_ (I.hok.fresh hd)
      · rw [List.pairwise_map]; exact h1
      · rw [e1]; exact h2.perm.map _
end
end SD
namespace SD
open PySem PySem.Spec PyProof.Rows L2
/-! # Defs by their names -/
/-- a def of the text: x the name that it is called by -/
structure Df (K : PySem.W.Frag) (mg : Str → Option Value) (x nm qual : Str) (st : Stmt) (ps : List Str) : Prop where
  ex : ∃ (f : Addr) (fd : FuncData), FunD K nm qual (defArgs st) (defBody st) (defScope st) [] [] f fd ∧ mg x = some (.ref f) ∧ Binds K fd ps []
/-- what a def that is called by the name x promises -/
structure Cl (P : Program) (w : World) (K : PySem.W.Frag) (mg : Str → Option Value) (base : Heap) (CX : CXT) (k : Nat) (x : Str) (sp : Sp) : Prop where
  ex : ∃ (f : Addr) (fd : FuncData) (ps : List Str), FnOk P w K mg base CX k f fd ps sp ∧ mg x = some (.ref f) ∧ PySem.W.keepIn K (.ref f) = true ∧ Binds K fd ps []
section
variable {P : Program} {w : World} {K : PySem.W.Frag} {mg : Str → Option Value} {base : Heap} {CX : CXT} {k j : Nat} {x nm qual : Str} {st : Stmt} {N ps : List Str} {sp sp' : Sp}
theorem Cl.mono (c : Cl P w K mg base CX j x sp) (h : j ≤ k) : Cl P w K mg base CX k x sp := by
  obtain ⟨f, fd, ps, F, m, kp, b⟩ := c.ex
  exact ⟨f, fd, ps, F.mono h, m, kp, b⟩
theorem Cl.imp (c : Cl P w K mg base CX k x sp) (h : ∀ vs H Q E, sp' vs H Q E → sp vs H Q E) : Cl P w K mg base CX k x sp' := by
  obtain ⟨f, fd, ps, F, m, kp, b⟩ := c.ex
  exact ⟨f, fd, ps, F.imp h, m, kp, b⟩
/-- a def that lets nothing out, by its body -/
theorem Df.ok (D : Df K mg x nm qual st ps) (S : FnScope N ps (defScope st)) (len : ∀ vs H Q E, sp vs H Q E → vs.length = ps.length)
    (hbody : ∀ (f : Addr) (cdv : Value) (A : Around) (outer : List Env) (s : Shared) (H : Hp) (vs : List V) (Q : VK) (E : XK), Room k (A.deeper (envOfC qual (defScope st) s.heap.objs.size f cdv)) → sp vs H Q E →
      ∃ t, PSs (cxOf CX0 P w K mg base N qual (defScope st) f cdv A outer s H E).nox (defBody st) t ∧ t { nx := fun _ H' => Q .non H', rt := Q } (start N vs) H) : Cl P w K mg base CX0 (k + 1) x sp := by
  obtain ⟨f, fd, F, m, b⟩ := D.ex
  refine ⟨f, fd, ps, F.ok S len fun cdv A outer s H vs Q E hr h => ?_, m, F.kp, b⟩
  obtain ⟨t, h1, h2⟩ := hbody f cdv A outer s H vs Q E hr h
  exact ⟨t, PSs.nox h1, h2⟩
/-- a def that may raise, by its body -/
theorem Df.okX (D : Df K mg x nm qual st ps) (S : FnScope N ps (defScope st)) (len : ∀ vs H Q E, sp vs H Q E → vs.length = ps.length)
    (hbody : ∀ (f : Addr) (cdv : Value) (A : Around) (outer : List Env) (s : Shared) (H : Hp) (vs : List V) (Q : VK) (E : XK), Room k (A.deeper (envOfC qual (defScope st) s.heap.objs.size f cdv)) → sp vs H Q E →
      ∃ t, PSs (cxOf (L2.CX P w) P w K mg base N qual (defScope st) f cdv A outer s H E) (defBody st) t ∧ t { nx := fun _ H' => Q .non H', rt := Q } (start N vs) H) : Cl P w K mg base (L2.CX P w) (k + 1) x sp := by
  obtain ⟨f, fd, F, m, b⟩ := D.ex
  exact ⟨f, fd, ps, F.ok S len fun cdv A outer s H vs Q E hr h => hbody f cdv A outer s H vs Q E hr h, m, F.kp, b⟩
/-- nothing is asked where nothing can be called -/
theorem Df.no (D : Df K mg x nm qual st ps) (no : ∀ vs H Q E, ¬ sp vs H Q E) : Cl P w K mg base CX k x sp := by
  obtain ⟨f, fd, F, m, b⟩ := D.ex
  exact ⟨f, fd, ps, ⟨fun vs H Q E h => absurd h (no vs H Q E), fun A outer s H args us vs Q E _ _ _ _ h => absurd h (no vs H Q E)⟩, m, F.kp, b⟩
end
section
variable {X : Cx} {CX : CXT} {k j : Nat} {x : Str} {sp : Sp} {E : XK} {p pos : Pos} {e : Expr} {es : List Expr} {t : TA}
/-- f(e, ..) -/
def tCl (sp : Sp) (E : XK) (t : TA) : TE := fun σ H Q => t σ H fun vs H1 => sp vs H1 Q E
theorem pe_cl (c : Cl X.prog X.w X.K X.mg X.base CX k x sp) (hr : Room j X.A) (hk : k ≤ j) (hx : Passes CX X E) (ha : PA X (e :: es) t) (hg : Gl X x := by rfl)
    (hdb : (x == ("__debug__" : Str)) = false := by decide) (he : starEach (e :: es) X.env = (false, eval e X.env) :: starEach es X.env := by rfl) (hpl : (backTo pos (starEach es X.env)).any (·.1) = false := by rfl) :
    PE X (.Call (.Name x p) (e :: es) [] pos) (tCl sp E t) := by
  obtain ⟨f, fd, ps, F, m, kp, b⟩ := c.ex
  have q := pe_call (E := E) (p := p) (pos := pos) F (hr.mono hk) hg m kp b .nil hx ha hdb he hpl
  refine ⟨fun pins s σ H Q I h => q.run pins s σ H Q I ?_⟩
  show t σ H fun vs H1 => sp (vs ++ []) H1 Q E
  simp only [List.append_nil]
  exact h
/-- .. that lets nothing out -/
theorem pe_c0 (c : Cl X.prog X.w X.K X.mg X.base CX0 k x sp) (hr : Room j X.A) (hk : k ≤ j) (ha : PA X (e :: es) t) (hg : Gl X x := by rfl)
    (hdb : (x == ("__debug__" : Str)) = false := by decide) (he : starEach (e :: es) X.env = (false, eval e X.env) :: starEach es X.env := by rfl) (hpl : (backTo pos (starEach es X.env)).any (·.1) = false := by rfl) :
    PE X (.Call (.Name x p) (e :: es) [] pos) (tCl sp E0 t) := pe_cl c hr hk pass0 ha hg hdb he hpl
end
/-! ### small words -/
theorem same_new {H : Hp} {p : Addr} (h : H p = none) (o : HO) : Same H (upd H p o) := fun b u q => by rw [upd_ne (ne_of_none q h)]; exact q
theorem sz {n : Nat} (h : n ≤ 1000) : n ≤ sizeLine := by rw [sizeLine_eq]; omega
theorem szl {n : Nat} (h : n ≤ 1000) : n < sizeLine := by rw [sizeLine_eq]; omega
theorem szm {n : Nat} (h : n ≤ 100000) : n ≤ sizeLine := by rw [sizeLine_eq]; omega
theorem szml {n : Nat} (h : n ≤ 100000) : n < sizeLine := by rw [sizeLine_eq]; omega
theorem at0 {α : Type} {x : α} {xs : List α} : atI (x :: xs) 0 = some x := atI_nat (j := 0) rfl
theorem at1 {α : Type} {x y : α} {xs : List α} : atI (x :: y :: xs) 1 = some y := atI_nat (j := 1) rfl
theorem at2 {α : Type} {x y z : α} {xs : List α} : atI (x :: y :: z :: xs) 2 = some z := atI_nat (j := 2) rfl
section
variable {K : PySem.W.Frag} {σ : L2.St} {H : Hp} {i : Nat} {s : Say} {v : V} {wd : Str}
/-- saying[0] -/
theorem q_word {Q : VK} (hσ : σ[i]? = some (some v)) (h : SayAt H s v) (q : Q (.str s.word) H) : tOp (rIxT K) (tVar i) (tC (.int 0)) σ H Q := by
  obtain ⟨a, r, rfl, ha, _⟩ := h.tup
  exact ⟨_, hσ, a, _, _, _, rfl, rfl, SqT.of ha, at0, q⟩
/-- saying[0] == word, as a test -/
theorem q_is {Q : Bool → Hp → Prop} (hσ : σ[i]? = some (some v)) (h : SayAt H s v) (q : Q (decide (s.word = wd)) H) : tTest (tOp rEq (tOp (rIxT K) (tVar i) (tC (.int 0))) (tC (.str wd))) σ H Q := by
  refine q_word hσ h ⟨rfl, _, rfl, ?_⟩
  rw [show decide (V.str s.word = V.str wd) = decide (s.word = wd) from decide_eq_decide.mpr ⟨fun e => by injection e, fun e => by rw [e]⟩]
  exact q
end
theorem word_no {s : Say} : s.word = "no" ↔ s = .no := by
  constructor
  · intro h; cases s <;> first | rfl | skip
    all_goals simp only [Say.word] at h
    · exact absurd h.symm w_ne.1.1
    · exact absurd h.symm w_ne.1.2.1
    · exact absurd h.symm w_ne.1.2.2
    · exact absurd h (oword_ne _).1
  · rintro rfl; rfl
theorem word_letter {s : Say} : s.word = "letter" ↔ s.isLetter = true := by
  cases s <;> simp only [Say.word, Say.isLetter]
  · simp [w_ne.1.1]
  · simp [Ne.symm w_ne.2.1.1]
  · simp [Ne.symm w_ne.2.1.2]
  · simp [(oword_ne _).2.1]
theorem word_not {s : Say} : s.word = "not" ↔ ∃ a, s = .neg a := by
  cases s <;> simp only [Say.word]
  · simp [w_ne.1.2.1]
  · simp [w_ne.2.1.1]
  · simp
  · simp [Ne.symm w_ne.2.2]
  · simp [(oword_ne _).2.2.1]
theorem word_shown {s : Say} : s.word = "shown" ↔ s.isShown = true := by
  cases s <;> simp only [Say.word, Say.isShown]
  · simp [w_ne.1.2.2]
  · simp [w_ne.2.1.2]
  · simp [w_ne.2.2]
  · simp [(oword_ne _).2.2.2]
/-- what the built-ins' names stand for -/
structure Tx (mg : Str → Option Value) : Prop where
  len : mg "len" = none
  sum : mg "sum" = none
  max : mg "max" = none
  min : mg "min" = none
  list : mg "list" = none
  tuple : mg "tuple" = none
  sorted : mg "sorted" = none
  reversed : mg "reversed" = none
  range : mg "range" = none
  enumerate : mg "enumerate" = none
  zip : mg "zip" = none
  all : mg "all" = none
  any : mg "any" = none
  int : mg "int" = none
  str : mg "str" = none
  isinstance : mg "isinstance" = none
/-! ### comprehensions over lists -/
/-- all but D as it was -/
def Exc (D : Addr) (H H' : Hp) : Prop := ∀ b o, b ≠ D → H b = some o → H' b = some o
theorem SayAt.exc {D : Addr} {H H' : Hp} {xs : List V} (hD : H D = some (.lst xs)) (g : Exc D H H') : ∀ {s : Say} {v : V}, SayAt H s v → SayAt H' s v := by
  have t : ∀ {a : Addr} {ys : List V}, H a = some (.tup ys) → H' a = some (.tup ys) := fun {a ys} h => g _ _ (ne_of h hD (by intro z; cases z)) h
  intro s
  induction s with
  | no => rintro v ⟨a, e, h⟩; exact ⟨a, e, t h⟩
  | letter c => rintro v ⟨a, e, h⟩; exact ⟨a, e, t h⟩
  | neg x ih => rintro v ⟨a, w, e, h, h1⟩; exact ⟨a, w, e, t h, ih h1⟩
  | shown x ih => rintro v ⟨a, w, e, h, h1⟩; exact ⟨a, w, e, t h, ih h1⟩
  | bin o x y ih1 ih2 => rintro v ⟨a, w, u, e, h, h1, h2⟩; exact ⟨a, w, u, e, t h, ih1 h1, ih2 h2⟩
theorem paired_get {α β : Type} {F : α → β → Prop} : ∀ {l : List α} {m : List β}, Paired F l m → ∀ (i : Nat) (x : α) (y : β), l[i]? = some x → m[i]? = some y → F x y
  | _, _, .nil, i, x, y, h, _ => by simp at h
  | _, _, .cons h t, 0, x, y, e, e' => by simp at e e'; subst e e'; exact h
  | _, _, .cons h t, i + 1, x, y, e, e' => paired_get t i x y (by simpa using e) (by simpa using e')
theorem paired_snoc {α β : Type} {F : α → β → Prop} {x : α} {y : β} (h : F x y) : ∀ {l : List α} {m : List β}, Paired F l m → Paired F (l ++ [x]) (m ++ [y])
  | _, _, .nil => .cons h .nil
  | _, _, .cons a t => .cons a (paired_snoc h t)
theorem take_snoc {α : Type} {l : List α} {i : Nat} {x : α} (h : l[i]? = some x) : l.take (i + 1) = l.take i ++ [x] := by
  obtain ⟨hi, e⟩ := List.getElem?_eq_some_iff.mp h
  rw [List.take_add_one, List.getElem?_eq_getElem hi, e]; rfl
theorem Paired.len {α β : Type} {F : α → β → Prop} : ∀ {l : List α} {m : List β}, Paired F l m → l.length = m.length
  | _, _, .nil => rfl
  | _, _, .cons _ t => by simp [Paired.len t]
theorem paired_map {α β γ : Type} {F : α → β → Prop} {G : γ → β → Prop} {f : α → γ} (h : ∀ a b, F a b → G (f a) b) : ∀ {l : List α} {m : List β}, Paired F l m → Paired G (l.map f) m
  | _, _, .nil => .nil
  | _, _, .cons a t => .cons (h _ _ a) (paired_map h t)
theorem paired_eq {α β : Type} {f : α → β} : ∀ {l : List α} {m : List β}, Paired (fun a b => b = f a) l m → m = l.map f
  | _, _, .nil => rfl
  | _, _, .cons a t => by rw [List.map_cons, ← paired_eq t, a]
/-- [.. for target in xs if ..], the items of xs told by as, one by one -/
theorem lc_on {α : Type} {K : PySem.W.Frag} {a : Addr} {xs : List V} {as : List α} {g : TG} {tt : TT} {te : TE} {vs : List Nat} {σ : L2.St} {H1 : Hp} {D : Addr} {Qd : Hp → Prop} (f : α → Bool) (R : α → V → Hp → Prop)
    (hl : SqL K H1 a xs) (hlen : as.length = xs.length) (hz : as.length ≤ 50000) (n1 : H1 D = none)
    (mono : ∀ x y H H' acc, H D = some (.lst acc) → Exc D H H' → R x y H → R x y H')
    (step : ∀ (j : Nat) (x : α) (v : V) (H : Hp) (acc : List V) (C : V → Hp → Prop) (C' : Hp → Prop), as[j]? = some x → xs[j]? = some v → Same H1 H → H D = some (.lst acc) →
      (f x = true → ∀ y H4, Same H H4 → R x y H4 → C y H4) → (f x = false → ∀ H4, Same H H4 → C' H4) →
      g v (wipe σ vs) H fun σ2 H2 => wipe σ2 vs = wipe σ vs ∧ tt σ2 H2 fun b H3 => if b = true then te σ2 H3 C else C' H3)
    (fin : ∀ ys H, Same H1 H → H D = some (.lst ys) → Paired (fun x y => R x y H) (as.filter f) ys → Qd H) :
    ∃ W : Nat → Nat → Hp → Prop, (∃ m, W 0 m (upd H1 D (.lst []))) ∧ ∀ i m H, W i m H →
      ((Itl K a).stop i H ∧ Qd H) ∨ ((Itl K a).go i H ∧ ∃ Nx : Hp → Prop, (∀ H', Nx H' → ∃ m', m' < m ∧ W (i + 1) m' H') ∧ ∀ x H', (Itl K a).yld i H x H' → g x (wipe σ vs) H' fun σ2 H2 => wipe σ2 vs = wipe σ vs ∧ tt σ2 H2 fun b H3 =>
        if b = true then te σ2 H3 fun y H4 => ∃ acc, H4 D = some (.lst acc) ∧ acc.length < sizeLine ∧ Nx (upd H4 D (.lst (acc ++ [y]))) else Nx H3) := by
  have sD : ∀ {H H' : Hp} {o : HO}, Same H1 H → Same H H' → Same H1 (upd H' D o) := fun s1 s2 b u q => by
    rw [upd_ne (ne_of_none q n1)]
    exact s2 _ _ (s1 _ _ q)
  refine lc_list (K := K) (a := a) (xs := xs) (fun i H => Same H1 H ∧ ∃ acc, H D = some (.lst acc) ∧ Paired (fun x y => R x y H) ((as.take i).filter f) acc) ⟨same_new n1 _, [], upd_same, .nil⟩ (fun i H _ h => h.1.seq hl) (fun i v H hv h => ?_) fun H h => ?_
  · obtain ⟨s1, acc, hD, hp⟩ := h
    have hi : i < as.length := by rw [hlen]; exact (List.getElem?_eq_some_iff.mp hv).1
    have hx : as[i]? = some as[i] := List.getElem?_eq_getElem hi
    have hacc : acc.length ≤ as.length := by
      rw [← Paired.len hp]
      exact Nat.le_trans (List.length_filter_le _ _) (by rw [List.length_take]; omega)
    refine step i _ v H acc _ _ hx hv s1 hD (fun hf y H4 s4 r => ?_) fun hf H4 s4 => ?_
    · refine ⟨acc, s4 _ _ hD, szml (by omega), sD s1 s4, _, upd_same, ?_⟩
      have ex : Exc D H4 (upd H4 D (.lst (acc ++ [y]))) := fun b o hb q => by rw [upd_ne hb]; exact q
      have ex0 : Exc D H (upd H4 D (.lst (acc ++ [y]))) := fun b o hb q => by rw [upd_ne hb]; exact s4 _ _ q
      rw [take_snoc hx, List.filter_append]
      have e1 : [as[i]].filter f = [as[i]] := by simp [hf]
      rw [e1]
      exact paired_snoc (F := fun x z => R x z (upd H4 D (.lst (acc ++ [y])))) (mono _ _ _ _ acc (s4 _ _ hD) ex r) (Paired.mapP hp fun u z q => mono u z H _ acc hD ex0 q)
    · refine ⟨fun b o q => s4 _ _ (s1 _ _ q), acc, s4 _ _ hD, ?_⟩
      rw [take_snoc hx, List.filter_append]
      have e1 : [as[i]].filter f = [] := by simp [hf]
      rw [e1, List.append_nil]
      exact Paired.mapP (G := fun x z => R x z H4) hp fun u z q => mono u z H H4 acc hD (fun b o _ q => s4 _ _ q) q
  · obtain ⟨s1, acc, hD, hp⟩ := h
    refine fin acc H s1 hD ?_
    rw [List.take_of_length_le (by omega)] at hp
    exact hp
theorem Same.seqT {K : PySem.W.Frag} {H H' : Hp} {a : Addr} {xs : List V} (e : Same H H') (h : SqT K H a xs) : SqT K H' a xs := by
  rcases h with h | h
  · rcases h with h | ⟨o, h⟩
    · exact .inl (.inl (e _ _ h))
    · exact .inl (.inr ⟨o, e _ _ h⟩)
  · exact .inr h
/-- .. over a tuple -/
theorem lc_onT {α : Type} {K : PySem.W.Frag} {a : Addr} {xs : List V} {as : List α} {g : TG} {tt : TT} {te : TE} {vs : List Nat} {σ : L2.St} {H1 : Hp} {D : Addr} {Qd : Hp → Prop} (f : α → Bool) (R : α → V → Hp → Prop)
    (hl : SqT K H1 a xs) (hlen : as.length = xs.length) (hz : as.length ≤ 50000) (n1 : H1 D = none)
    (mono : ∀ x y H H' acc, H D = some (.lst acc) → Exc D H H' → R x y H → R x y H')
    (step : ∀ (j : Nat) (x : α) (v : V) (H : Hp) (acc : List V) (C : V → Hp → Prop) (C' : Hp → Prop), as[j]? = some x → xs[j]? = some v → Same H1 H → H D = some (.lst acc) →
      (f x = true → ∀ y H4, Same H H4 → R x y H4 → C y H4) → (f x = false → ∀ H4, Same H H4 → C' H4) →
      g v (wipe σ vs) H fun σ2 H2 => wipe σ2 vs = wipe σ vs ∧ tt σ2 H2 fun b H3 => if b = true then te σ2 H3 C else C' H3)
    (fin : ∀ ys H, Same H1 H → H D = some (.lst ys) → Paired (fun x y => R x y H) (as.filter f) ys → Qd H) :
    ∃ W : Nat → Nat → Hp → Prop, (∃ m, W 0 m (upd H1 D (.lst []))) ∧ ∀ i m H, W i m H →
      ((Itt K a).stop i H ∧ Qd H) ∨ ((Itt K a).go i H ∧ ∃ Nx : Hp → Prop, (∀ H', Nx H' → ∃ m', m' < m ∧ W (i + 1) m' H') ∧ ∀ x H', (Itt K a).yld i H x H' → g x (wipe σ vs) H' fun σ2 H2 => wipe σ2 vs = wipe σ vs ∧ tt σ2 H2 fun b H3 =>
        if b = true then te σ2 H3 fun y H4 => ∃ acc, H4 D = some (.lst acc) ∧ acc.length < sizeLine ∧ Nx (upd H4 D (.lst (acc ++ [y]))) else Nx H3) := by
  have sD : ∀ {H H' : Hp} {o : HO}, Same H1 H → Same H H' → Same H1 (upd H' D o) := fun s1 s2 b u q => by
    rw [upd_ne (ne_of_none q n1)]
    exact s2 _ _ (s1 _ _ q)
  refine lc_tup (K := K) (a := a) (xs := xs) (fun i H => Same H1 H ∧ ∃ acc, H D = some (.lst acc) ∧ Paired (fun x y => R x y H) ((as.take i).filter f) acc) ⟨same_new n1 _, [], upd_same, .nil⟩ (fun i H _ h => Same.seqT h.1 hl) (fun i v H hv h => ?_) fun H h => ?_
  · obtain ⟨s1, acc, hD, hp⟩ := h
    have hi : i < as.length := by rw [hlen]; exact (List.getElem?_eq_some_iff.mp hv).1
    have hx : as[i]? = some as[i] := List.getElem?_eq_getElem hi
    have hacc : acc.length ≤ as.length := by
      rw [← Paired.len hp]
      exact Nat.le_trans (List.length_filter_le _ _) (by rw [List.length_take]; omega)
    refine step i _ v H acc _ _ hx hv s1 hD (fun hf y H4 s4 r => ?_) fun hf H4 s4 => ?_
    · refine ⟨acc, s4 _ _ hD, szml (by omega), sD s1 s4, _, upd_same, ?_⟩
      have ex : Exc D H4 (upd H4 D (.lst (acc ++ [y]))) := fun b o hb q => by rw [upd_ne hb]; exact q
      have ex0 : Exc D H (upd H4 D (.lst (acc ++ [y]))) := fun b o hb q => by rw [upd_ne hb]; exact s4 _ _ q
      rw [take_snoc hx, List.filter_append]
      have e1 : [as[i]].filter f = [as[i]] := by simp [hf]
      rw [e1]
      exact paired_snoc (F := fun x z => R x z (upd H4 D (.lst (acc ++ [y])))) (mono _ _ _ _ acc (s4 _ _ hD) ex r) (Paired.mapP hp fun u z q => mono u z H _ acc hD ex0 q)
    · refine ⟨fun b o q => s4 _ _ (s1 _ _ q), acc, s4 _ _ hD, ?_⟩
      rw [take_snoc hx, List.filter_append]
      have e1 : [as[i]].filter f = [] := by simp [hf]
      rw [e1, List.append_nil]
      exact Paired.mapP (G := fun x z => R x z H4) hp fun u z q => mono u z H H4 acc hD (fun b o _ q => s4 _ _ q) q
  · obtain ⟨s1, acc, hD, hp⟩ := h
    refine fin acc H s1 hD ?_
    rw [List.take_of_length_le (by omega)] at hp
    exact hp
theorem filter_true {α : Type} (l : List α) : l.filter (fun _ => true) = l := by simp
/-- a tuple's rest -/
theorem cut_rest {x : V} {r : List V} : cutV (x :: r) (some 1) none = r := by
  show ((x :: r).drop (HT.sIx (x :: r).length 0 (some ((1 : Nat) : Int)))).take (_ - HT.sIx (x :: r).length 0 (some ((1 : Nat) : Int))) = r
  rw [HT.sIx_nat, HT.sIx_none]
  have : min 1 (x :: r).length = 1 := by rw [List.length_cons]; omega
  rw [this]
  simp
theorem not_whole {x : V} {r : List V} : ¬ (HT.sIx (x :: r).length 0 (some 1) = 0 ∧ HT.sIx (x :: r).length (x :: r).length none = (x :: r).length) := by
  rintro ⟨h, _⟩
  have : HT.sIx (x :: r).length 0 (some ((1 : Nat) : Int)) = min 1 (x :: r).length := HT.sIx_nat _ _ _
  rw [show (some (1 : Int)) = some ((1 : Nat) : Int) from rfl, this, List.length_cons] at h
  omega
def Say.leaf (s : Say) : Bool := s.kids.isEmpty
/-- saying[0] == "no" or saying[0] == "letter" -/
theorem q_leaf {K : PySem.W.Frag} {σ : L2.St} {H : Hp} {i : Nat} {s : Say} {v : V} {Q : Bool → Hp → Prop} (hσ : σ[i]? = some (some v)) (h : SayAt H s v) (q : Q s.leaf H) :
    tOr (tTest (tOp rEq (tOp (rIxT K) (tVar i) (tC (.int 0))) (tC (.str "no")))) (tTest (tOp rEq (tOp (rIxT K) (tVar i) (tC (.int 0))) (tC (.str "letter")))) σ H Q := by
  refine q_is hσ h ?_
  refine ite2 (fun c => ?_) (fun c => ?_)
  · have := word_no.mp (of_decide_eq_true c); subst this; exact q
  · refine q_is hσ h ?_
    have e : decide (s.word = "letter") = s.leaf := by
      cases s with
      | no => exact absurd (decide_eq_true rfl) c
      | letter => exact decide_eq_true rfl
      | neg => exact decide_eq_false (Ne.symm w_ne.2.1.1)
      | shown => exact decide_eq_false (Ne.symm w_ne.2.1.2)
      | bin o => exact decide_eq_false (oword_ne o).2.1
    rw [e]
    exact q
theorem leaf_kids {s : Say} (h : s.leaf = true) : s.kids = [] := by simpa [Say.leaf] using h
/-- the tuple of a saying that is no leaf: its kids behind the word -/
theorem SayAt.kids {H : Hp} {s : Say} {v : V} (h : SayAt H s v) (hl : s.leaf = false) : ∃ a us, v = .ref a ∧ H a = some (.tup (.str s.word :: us)) ∧ SaysAt H s.kids us := by
  obtain ⟨a, r, e, ha, hr⟩ := h.tup
  refine ⟨a, r, e, ha, ?_⟩
  cases s <;> first | exact hr | (simp [Say.leaf, Say.kids] at hl)
theorem kids_len (s : Say) : s.kids.length ≤ 2 := by cases s <;> simp [Say.kids]
theorem kid_ht {s t : Say} (h : t ∈ s.kids) : t.ht < s.ht := by
  cases s <;> simp [Say.kids] at h
  · subst h; simp [Say.ht]
  · subst h; simp [Say.ht]
  · rcases h with rfl | rfl <;> simp [Say.ht] <;> omega
theorem paired_mem {α β : Type} {F : α → β → Prop} {l : List α} {m : List β} (_ : Paired F l m) {i : Nat} {x : α} (h : l[i]? = some x) : x ∈ l := List.mem_of_getElem? h
theorem q_yes {σ : L2.St} {H : Hp} (A B : Hp → Prop) (h : A H) : tYes σ H fun b H3 => if b = true then A H3 else B H3 := by
  show if true = true then A H else B H
  exact iteT h
/-! ### rules whose reading speaks of the written part, the part named (for a comprehension's block) -/
section
variable {X : Cx} {K : PySem.W.Frag}
theorem ixT (K : PySem.W.Frag) (h : X.K = K := by rfl) : IxR X (rIxT K) := by subst h; exact ix_tup
theorem ixL (K : PySem.W.Frag) (h : X.K = K := by rfl) : IxR X (rIxL K) := by subst h; exact ix_list
theorem lenS (K : PySem.W.Frag) (h : X.K = K := by rfl) : CallR X (.builtin "len") (fun xs H Q => ∃ p ys, xs = [.ref p] ∧ (SqL K H p ys ∨ SqT K H p ys) ∧ Q (.int ys.length) H) := by subst h; exact call_len_seq
theorem notInS (K : PySem.W.Frag) {k : Nat} (hr : Room k X.A) (h : X.K = K := by rfl) : OpR X (compareOp .NotIn) (rNotInS K) := by subst h; exact op_notInS hr
theorem allL (K : PySem.W.Frag) (hc : X.calm = true) (h : X.K = K := by rfl) : CallR X (.builtin "all") (rAll K) := by subst h; exact cr_all hc
end
end SD
namespace SD
open PySem PySem.Spec PyProof.Rows L2
section
variable {P : Program} {w : World} {K : PySem.W.Frag} {mg : Str → Option Value} {base : Heap}
/-! # inner_of, size_of, depth_of -/
/-- inner_of: a new list of the kids -/
def spInner : Sp := fun vs H Q _ => ∃ (v : V) (s : Say), vs = [v] ∧ SayAt H s v ∧ ∀ (p : Addr) (us : List V) (H' : Hp), Same H H' → H p = none → H' p = some (.lst us) → SaysAt H' s.kids us → Q (.ref p) H'
theorem cl_inner (D : Df K mg "inner_of" "inner_of" "inner_of" s_inner_of ["saying"]) (T : Tx mg) : Cl P w K mg base CX0 1 "inner_of" spInner := by
  refine D.ok c_inner_of (fun vs H Q E h => ?_) fun f cdv A outer s H vs Q E hr h => ?_
  · obtain ⟨v, s, rfl, _⟩ := h
    rfl
  obtain ⟨v, x, rfl, hx, k⟩ := h
  refine ⟨_, pss_cons (ps_if (PW.pt (pw_or (pt_cmpR op_eq (pe_ix ix_tup (pv 0) pe_int (fun _ _ => rfl)) pe_str (nomark _)) (pw_or1 (pt_cmpR op_eq (pe_ix ix_tup (pv 0) pe_int (fun _ _ => rfl)) pe_str (nomark _))))) (pss_one (ps_ret (pe_lst pa_nil))) pss_nil)
    (pss_one (ps_ret (pe_callTy call_list_of rfl T.list (by decide +kernel) (pa_cons (pe_slice sl_tup (pv 0) (po_some pe_int) po_none) pa_nil)))), ?_⟩
  refine q_leaf rfl hx (ite2 (fun c => ?_) fun c => ?_)
  · refine ⟨sz (by decide), fun p hp => ?_⟩
    have e := leaf_kids c
    exact k p [] _ (same_new hp _) hp upd_same (by rw [e]; exact .nil)
  · obtain ⟨a, us, rfl, ha, hu⟩ := hx.kids (Bool.eq_false_iff.mpr c)
    refine ⟨_, rfl, _, rfl, a, _, rfl, SqT.of ha, not_whole, fun q hq => ?_⟩
    rw [cut_rest]
    have g1 := same_new hq (.tup us)
    refine ⟨q, us, rfl, .inr (SqT.of upd_same), fun l hl => ?_⟩
    exact k l us _ (g1.trans (same_new hl _)) (g1.free hl) upd_same (hu.mono (g1.trans (same_new hl _)))
/-- size_of and _law_size alike -/
def spSize (n : Nat) : Sp := fun vs H Q _ => ∃ (v : V) (s : Say), vs = [v] ∧ SayAt H s v ∧ s.ht < n ∧ s.size ≤ 100000 ∧ ∀ H', Same H H' → Q (.int s.size) H'
theorem sizes_sum : ∀ s : Say, s.leaf = false → (1 : Int) + (s.kids.map fun t => ((t.size : Nat) : Int)).sum = s.size := by
  intro s h
  cases s <;> first | (simp [Say.leaf, Say.kids] at h; done) | skip
  all_goals simp [Say.kids, Say.size]
theorem kid_size {s t : Say} (h : t ∈ s.kids) : t.size ≤ s.size := by
  cases s <;> simp [Say.kids] at h
  · subst h; simp [Say.size]
  · subst h; simp [Say.size]
  · rcases h with rfl | rfl <;> simp [Say.size] <;> omega
theorem leaf_size {s : Say} (h : s.leaf = true) : s.size = 1 := by cases s <;> first | rfl | (simp [Say.leaf, Say.kids] at h)
theorem cl_size (D : Df K mg "size_of" "size_of" "size_of" s_size_of ["saying"]) (T : Tx mg) (cI : Cl P w K mg base CX0 1 "inner_of" spInner) : ∀ n : Nat, Cl P w K mg base CX0 (n + 1) "size_of" (spSize n)
  | 0 => D.no fun vs H Q E h => by
    obtain ⟨v, s, _, _, h, _⟩ := h
    omega
  | n + 1 => by
    have ih := cl_size D T cI n
    refine D.ok c_size_of (fun vs H Q E h => ?_) fun f cdv A outer s H vs Q E hr h => ?_
    · obtain ⟨v, s, rfl, _⟩ := h
      rfl
    obtain ⟨v, x, rfl, hx, hh, hz, k⟩ := h
    refine ⟨_, pss_one (ps_ret (pe_op op_add pe_int (pe_callB (cr_sum rfl) rfl T.sum (by decide +kernel)
      (pa_cons (pe_lc (own := [("part", 1)]) (g := gName 1) rfl c_size_of.nd (pi_list (pe_c0 cI hr (by omega) (pa_cons (pv 0) pa_nil))) (blkOk_by (own := [("part", 1)]) (N := ["saying", "part"]) (sc := defScope s_size_of) (by decide +kernel))
        (fun _ _ _ _ _ => pg_name (i := 1) c_size_of.nd rfl (Or.inl rfl)) (fun _ _ _ _ _ => pts_nil) (fun _ _ _ _ _ => pe_c0 ih hr (by omega) (pa_cons (pv 1) pa_nil))) pa_nil)))), ?_⟩
    refine ⟨_, rfl, v, x, rfl, hx, fun p us H1 g1 np hp hu => ⟨p, rfl, ⟨_, SqL.of hp⟩, fun D nD => ?_⟩⟩
    have hlen := Paired.len hu
    refine lc_on (as := x.kids) (fun _ => true) (fun (t : Say) y _ => y = .int t.size) (SqL.of hp) hlen (by have := kids_len x; omega) nD (fun _ _ _ _ _ _ _ h => h) (fun j t v H2 acc C C' ht hv s1 hD hC _ => ?_) fun ys H2 s1 hD hy => ?_
    · refine ⟨rfl, q_yes _ _ ?_⟩
      have tm := List.mem_of_getElem? ht
      have := kid_ht tm
      have := kid_size tm
      refine ⟨_, rfl, v, t, rfl, (paired_get hu j t v ht hv).mono s1, by omega, by omega, fun H3 g3 => hC rfl _ _ g3 rfl⟩
    · rw [filter_true] at hy
      have e := paired_eq hy
      refine ⟨D, x.kids.map (fun t => ((t.size : Nat) : Int)), rfl, ?_, ?_⟩
      · rw [List.map_map]; exact SqL.of (by rw [hD, e]; rfl)
      · refine ⟨_, _, rfl, rfl, ?_⟩
        have e2 := k H2 (g1.trans s1)
        by_cases c : x.leaf = true
        · rw [leaf_kids c]
          rw [leaf_size c] at e2
          exact e2
        · rw [← sizes_sum x (Bool.eq_false_iff.mpr c)] at e2
          exact e2
end
end SD
namespace SD
open PySem PySem.Spec PyProof.Rows L2
section
variable {P : Program} {w : World} {K : PySem.W.Frag} {mg : Str → Option Value} {base : Heap}
/-! # depth_of -/
def spDepth (n : Nat) : Sp := fun vs H Q _ => ∃ (v : V) (s : Say), vs = [v] ∧ SayAt H s v ∧ s.ht < n ∧ ∀ H', Same H H' → Q (.int s.depth) H'
/-- the greatest depth of the kids, 0 where there are none -/
def kidMax (s : Say) : Nat := match s with | .neg a => a.depth | .shown a => a.depth | .bin _ a b => max a.depth b.depth | _ => 0
theorem kidMax_ok {s : Say} {m : Int} (hm : m ∈ s.kids.map fun t => ((t.depth : Nat) : Int)) (hg : ∀ y ∈ s.kids.map (fun t => ((t.depth : Nat) : Int)), y ≤ m) : m = (kidMax s : Int) := by
  cases s <;> simp [Say.kids, kidMax] at hm hg ⊢
  · exact hm
  · exact hm
  · omega
theorem kidMax_nil {s : Say} (h : s.kids.map (fun t => ((t.depth : Nat) : Int)) = []) : kidMax s = 0 := by cases s <;> simp [Say.kids, kidMax] at h ⊢
theorem depth_shown {s : Say} (h : s.isShown = true) : s.depth = kidMax s + 1 := by cases s <;> simp [Say.isShown] at h; rfl
theorem depth_other {s : Say} (h : ¬ s.isShown = true) : s.depth = kidMax s := by cases s <;> first | rfl | exact absurd rfl h
theorem cl_depth (D : Df K mg "depth_of" "depth_of" "depth_of" s_depth_of ["saying"]) (T : Tx mg) (cI : Cl P w K mg base CX0 1 "inner_of" spInner) : ∀ n : Nat, Cl P w K mg base CX0 (n + 1) "depth_of" (spDepth n)
  | 0 => D.no fun vs H Q E h => by
    obtain ⟨v, s, _, _, h, _⟩ := h
    omega
  | n + 1 => by
    have ih := cl_depth D T cI n
    refine D.ok c_depth_of (fun vs H Q E h => ?_) fun f cdv A outer s H vs Q E hr h => ?_
    · obtain ⟨v, s, rfl, _⟩ := h
      rfl
    obtain ⟨v, x, rfl, hx, hh, k⟩ := h
    refine ⟨_, pss_cons (ps_set (i := 1) c_depth_of.nd rfl (Or.inl rfl) (pe_callBK (cr_maxD rfl) rfl T.max (by decide +kernel)
      (pa_cons (pe_lc (own := [("part", 2)]) (g := gName 2) rfl c_depth_of.nd (pi_list (pe_c0 cI hr (by omega) (pa_cons (pv 0) pa_nil))) (blkOk_by (own := [("part", 2)]) (N := ["saying", "deepest", "part"]) (sc := defScope s_depth_of) (by decide +kernel))
        (fun _ _ _ _ _ => pg_name (i := 2) c_depth_of.nd rfl (Or.inl rfl)) (fun _ _ _ _ _ => pts_nil) (fun _ _ _ _ _ => pe_c0 ih hr (by omega) (pa_cons (pv 2) pa_nil))) pa_nil) (pk_cons pe_int pk_nil)))
      (pss_cons (ps_if (pt_cmpR op_eq (pe_ix ix_tup (pv 0) pe_int (fun _ _ => rfl)) pe_str (nomark _)) (pss_one (ps_ret (pe_op op_add (pv 1) pe_int))) pss_nil)
      (pss_one (ps_ret (pv 1)))), ?_⟩
    refine ⟨_, rfl, v, x, rfl, hx, fun p us H1 g1 np hp hu => ⟨p, rfl, ⟨_, SqL.of hp⟩, fun D nD => ?_⟩⟩
    have hlen := Paired.len hu
    refine lc_on (as := x.kids) (fun _ => true) (fun (t : Say) y _ => y = .int t.depth) (SqL.of hp) hlen (by have := kids_len x; omega) nD (fun _ _ _ _ _ _ _ h => h) (fun j t v H2 acc C C' ht hv s1 hD hC _ => ?_) fun ys H2 s1 hD hy => ?_
    · refine ⟨rfl, q_yes _ _ ?_⟩
      have tm := List.mem_of_getElem? ht
      have := kid_ht tm
      exact ⟨_, rfl, v, t, rfl, (paired_get hu j t v ht hv).mono s1, by omega, fun H3 g3 => hC rfl _ _ g3 rfl⟩
    · rw [filter_true] at hy
      have e := paired_eq hy
      have fin : ∀ m : Int, m = (kidMax x : Int) → tSeq (tIfS (tTest (tOp rEq (tOp (rIxT K) (tVar 0) (tC (.int 0))) (tC (.str "shown")))) (tRet (tOp (rI0 fun i j => .int (i + j)) (tVar 1) (tC (.int 1)))) tNext) (tRet (tVar 1)) { nx := fun _ H' => Q .non H', rt := Q } [some v, some (.int m), none] H2 := by
        intro m hm
        refine q_is rfl (hx.mono (g1.trans s1)) (ite2 (fun c => ?_) fun c => ?_)
        · refine ⟨_, rfl, _, _, rfl, rfl, ?_⟩
          have e2 := k H2 (g1.trans s1)
          rw [depth_shown (word_shown.mp (of_decide_eq_true c))] at e2
          rw [hm]
          exact e2
        · refine ⟨_, rfl, ?_⟩
          have e2 := k H2 (g1.trans s1)
          rw [depth_other fun z => c (decide_eq_true (word_shown.mpr z))] at e2
          rw [hm]
          exact e2
      refine ⟨D, x.kids.map (fun t => ((t.depth : Nat) : Int)), 0, rfl, rfl, ?_, fun h0 => ?_, fun m hm hg => ?_⟩
      · rw [List.map_map]; exact SqL.of (by rw [hD, e]; rfl)
      · exact fin 0 (by rw [kidMax_nil h0]; rfl)
      · exact fin m (kidMax_ok hm hg)
/-! # gather -/
theorem parts_eq (s : Say) : s.parts = s :: s.kids.flatMap Say.parts := by cases s <;> simp [Say.parts, Say.kids]
def spGather (n : Nat) : Sp := fun vs H Q _ => ∃ (v : V) (L : Addr) (s : Say) (acc : List V), vs = [v, .ref L] ∧ SayAt H s v ∧ H L = some (.lst acc) ∧ s.ht < n ∧ acc.length + s.size ≤ 50000 ∧
  ∀ (H' : Hp) (ws : List V), Exc L H H' → H' L = some (.lst (acc ++ ws)) → SaysAt H' s.parts ws → Q .non H'
theorem SaysAt.exc {D : Addr} {H H' : Hp} {xs : List V} (hD : H D = some (.lst xs)) (g : Exc D H H') {ss : List Say} {vs : List V} (h : SaysAt H ss vs) : SaysAt H' ss vs := Paired.mapP h fun _ _ q => q.exc hD g
theorem paired_app {α β : Type} {F : α → β → Prop} : ∀ {l l' : List α} {m m' : List β}, Paired F l m → Paired F l' m' → Paired F (l ++ l') (m ++ m')
  | _, _, _, _, .nil, h => h
  | _, _, _, _, .cons a t, h => .cons a (paired_app t h)
theorem flat_size : ∀ (l : List Say), (l.flatMap Say.parts).length = (l.map Say.size).sum
  | [] => rfl
  | x :: l => by rw [List.flatMap_cons, List.length_append, Say.parts_len, flat_size l, List.map_cons, List.sum_cons]
theorem kids_sum (s : Say) : 1 + (s.kids.map Say.size).sum = s.size := by cases s <;> simp [Say.kids, Say.size]
theorem take_sum {l : List Nat} {i : Nat} {x : Nat} (h : l[i]? = some x) : (l.take i).sum + x ≤ l.sum := by
  have e : l = l.take i ++ x :: l.drop (i + 1) := by
    obtain ⟨hi, e⟩ := List.getElem?_eq_some_iff.mp h
    rw [← e, ← List.drop_eq_getElem_cons hi, List.take_append_drop]
  have q : l.sum = (l.take i).sum + (x + (l.drop (i + 1)).sum) := by
    have := congrArg List.sum e
    rw [List.sum_append, List.sum_cons] at this
    exact this
  omega
theorem cl_gather (D : Df K mg "gather_sayings" "gather" "gather" s_gather ["saying", "found"]) (T : Tx mg) (cI : Cl P w K mg base CX0 1 "inner_of" spInner) : ∀ n : Nat, Cl P w K mg base CX0 (n + 1) "gather_sayings" (spGather n)
  | 0 => D.no fun vs H Q E h => by
    obtain ⟨v, L, s, acc, _, _, _, h, _⟩ := h
    omega
  | n + 1 => by
    have ih := cl_gather D T cI n
    refine D.ok c_gather (fun vs H Q E h => ?_) fun f cdv A outer s H vs Q E hr h => ?_
    · obtain ⟨v, L, s, acc, rfl, _⟩ := h
      rfl
    obtain ⟨v, L, x, acc, rfl, hx, hL, hh, hz, k⟩ := h
    refine ⟨_, pss_cons (ps_expr (pe_bm PySem.F.plainAttrs_list PySem.F.slot_list_append PySem.F.type_list_append mt_append (pv 1) (pa_cons (pv 0) pa_nil)))
      (pss_one (ps_for PassesOwn.never rfl (pi_list (pe_c0 cI hr (by omega) (pa_cons (pv 0) pa_nil))) (pg_name (i := 2) c_gather.nd rfl (Or.inl rfl)) (pss_one (ps_expr (pe_c0 ih hr (by omega) (pa_cons (pv 2) (pa_cons (pv 1) pa_nil))))))), ?_⟩
    have hs := Say.size_pos x
    refine ⟨_, rfl, .inl ⟨rfl, _, SqL.of hL⟩, _, rfl, L, acc, _, rfl, rfl, hL, szml (by omega), ?_⟩
    have e0 : Exc L H (upd H L (.lst (acc ++ [v]))) := fun b o hb q => by rw [upd_ne hb]; exact q
    have hx0 := hx.exc hL e0
    refine ⟨_, rfl, v, x, rfl, hx0, fun p us H1 g1 np hp hu => ⟨p, rfl, ⟨_, SqL.of hp⟩, ?_⟩⟩
    have hL1 : H1 L = some (.lst (acc ++ [v])) := g1 _ _ upd_same
    have npL : p ≠ L := (ne_of_none upd_same np).symm
    refine for_list (K := K) (a := p) (xs := us) (fun i σ H2 => ∃ (o : Option V) (ws : List V), σ = [some v, some (.ref L), o] ∧ Exc L H1 H2 ∧ H2 L = some (.lst (acc ++ [v] ++ ws)) ∧ SaysAt H2 ((x.kids.take i).flatMap Say.parts) ws)
      ⟨none, [], rfl, fun b o _ q => q, by rw [List.append_nil]; exact hL1, .nil⟩ (fun i σ H2 _ ⟨_, _, _, ex, _⟩ => SqL.of (ex _ _ npL hp)) (fun i u σ H2 hi h => ?_) fun σ H2 h => ?_
    · obtain ⟨o, ws, rfl, ex, hL2, hw⟩ := h
      have hlen := Paired.len hu
      have hil : i < x.kids.length := by rw [hlen]; exact (List.getElem?_eq_some_iff.mp hi).1
      have ht : x.kids[i]? = some x.kids[i] := List.getElem?_eq_getElem hil
      have tm := List.mem_of_getElem? ht
      have hth := kid_ht tm
      have hut : SayAt H2 x.kids[i] u := (paired_get hu i _ u ht hi).exc hL1 ex
      have hws := Paired.len hw
      rw [flat_size, List.map_take] at hws
      have hts := take_sum (l := x.kids.map Say.size) (i := i) (x := x.kids[i].size) (by rw [List.getElem?_map, ht]; rfl)
      have hks := kids_sum x
      refine ⟨_, rfl, _, rfl, u, L, x.kids[i], _, rfl, hut, hL2, by omega, ?_, fun H3 ws' ex3 hL3 hw3 => ?_⟩
      · rw [List.length_append, List.length_append, List.length_singleton, ← hws]; omega
      · refine ⟨some u, ws ++ ws', rfl, fun b o hb q => ex3 _ _ hb (ex _ _ hb q), ?_, ?_⟩
        · rw [hL3, ← List.append_assoc]
        · rw [take_snoc ht, List.flatMap_append]
          refine paired_app (SaysAt.exc hL2 ex3 hw) ?_
          rw [List.flatMap_cons, List.flatMap_nil, List.append_nil]
          exact hw3
    · obtain ⟨o, ws, rfl, ex, hL2, hw⟩ := h
      have hlen := Paired.len hu
      rw [List.take_of_length_le (by omega)] at hw
      refine k H2 (v :: ws) (fun b o hb q => ex _ _ hb (g1 _ _ (e0 _ _ hb q))) ?_ ?_
      · rw [hL2, List.append_assoc]; rfl
      · rw [parts_eq]
        exact .cons ((hx0.mono g1).exc hL1 ex) hw
end
end SD
namespace SD
open PySem PySem.Spec PyProof.Rows L2
section
variable {P : Program} {w : World} {K : PySem.W.Frag} {mg : Str → Option Value} {base : Heap}
/-! # each_once -/
def spOnce : Sp := fun vs H Q _ => ∃ (a : Addr) (xs : List V) (ss : List Say), vs = [.ref a] ∧ SqL K H a xs ∧ SaysAt H ss xs ∧ (∀ s ∈ ss, s.ht ≤ 180) ∧ ss.length ≤ 50000 ∧
  ∀ (p : Addr) (ys : List V) (ts : List Say) (H' : Hp), Same H H' → H p = none → H' p = some (.lst ys) → SaysAt H' ts ys → Up ts → (∀ t, t ∈ ts ↔ t ∈ ss) → Q (.ref p) H'
theorem push_new {told : List Say} {x : Say} (h : ¬ told.getLast? = some x) : push told x = told ++ [x] := if_neg h
theorem push_old {told : List Say} {x : Say} (h : told.getLast? = some x) : push told x = told := if_pos h
theorem push_len (told : List Say) (x : Say) : (push told x).length ≤ told.length + 1 := by unfold push; split <;> simp
theorem fold_len : ∀ (l told : List Say), (l.foldl push told).length ≤ told.length + l.length
  | [], told => by simp
  | x :: l, told => by
    have := fold_len l (push told x)
    have := push_len told x
    rw [List.foldl_cons, List.length_cons]
    omega
theorem last_at {α : Type} {l : List α} {x : α} (h : l.getLast? = some x) : atI l (-1) = some x := by
  have hne : l ≠ [] := by rintro rfl; simp at h
  have hlen := List.length_pos_iff.mpr hne
  show (ixN l.length (-1)).bind _ = _
  have e : ixN l.length (-1) = some (l.length - 1) := by
    unfold ixN
    rw [if_neg (by omega), if_pos (by omega)]
    congr 1
    omega
  rw [e]
  rw [List.getLast?_eq_getElem?] at h
  exact h
theorem paired_last {α β : Type} {F : α → β → Prop} {l : List α} {m : List β} (h : Paired F l m) {x : α} (e : l.getLast? = some x) : ∃ y, m.getLast? = some y ∧ F x y := by
  rw [List.getLast?_eq_getElem?] at e
  have hl := Paired.len h
  have hi : l.length - 1 < m.length := by
    have := (List.getElem?_eq_some_iff.mp e).1
    omega
  refine ⟨m[l.length - 1], ?_, paired_get h _ _ _ e (List.getElem?_eq_getElem hi)⟩
  rw [List.getLast?_eq_getElem?, ← hl]
  exact List.getElem?_eq_getElem hi
theorem cl_once (D : Df K mg "each_once" "each_once" "each_once" s_each_once ["some"]) (T : Tx mg) : Cl P w K mg base CX0 1 "each_once" (spOnce (K := K)) := by
  refine D.ok c_each_once (fun vs H Q E h => ?_) fun f cdv A outer s H vs Q E hr h => ?_
  · obtain ⟨a, xs, ss, rfl, _⟩ := h
    rfl
  obtain ⟨a, xs, ss, rfl, hS, hss, hht, hz, k⟩ := h
  refine ⟨_, pss_cons (ps_set (i := 1) c_each_once.nd rfl (Or.inl rfl) (pe_lst pa_nil))
    (pss_cons (ps_for PassesOwn.never rfl (pi_list (pe_callB (cr_sortedY hr) rfl T.sorted (by decide +kernel) (pa_cons (pv 0) pa_nil))) (pg_name (i := 2) c_each_once.nd rfl (Or.inl rfl))
      (pss_one (ps_if (PW.pt (pw_or (pt_cmpR op_eq (pe_callB call_len_seq rfl T.len PySem.boot_len (pa_cons (pv 1) pa_nil)) pe_int (nomark _))
        (pw_or1 (pt_cmpR (op_neS hr) (pe_ix ix_list (pv 1) (pe_un un_neg pe_int) (fun _ _ => rfl)) (pv 2) (nomark _)))))
        (pss_one (ps_expr (pe_bm PySem.F.plainAttrs_list PySem.F.slot_list_append PySem.F.type_list_append mt_append (pv 1) (pa_cons (pv 2) pa_nil)))) pss_nil)))
    (pss_one (ps_ret (pv 1)))), ?_⟩
  refine ⟨sz (by decide), fun L hL => ?_⟩
  have g0 := same_new hL (.lst [])
  refine ⟨_, rfl, a, xs, ss, rfl, g0.seq hS, hss.mono g0, hht, fun ts ys p hts hsr hpm hp => ⟨p, rfl, ⟨_, SqL.of upd_same⟩, ?_⟩⟩
  have npL : p ≠ L := fun e => by rw [e, upd_same] at hp; cases hp
  have g1 : Same (upd H L (.lst [])) (upd (upd H L (.lst [])) p (.lst ys)) := same_new hp _
  have hlen := Paired.len hts
  have hz' : ts.length ≤ 50000 := by rw [hpm.length_eq]; exact hz
  refine for_list (K := K) (a := p) (xs := ys) (fun i σ H2 => ∃ (o : Option V) (us : List V), σ = [some (.ref a), some (.ref L), o] ∧ Exc L (upd (upd H L (.lst [])) p (.lst ys)) H2 ∧ H2 L = some (.lst us) ∧ SaysAt H2 ((ts.take i).foldl push []) us)
    ⟨none, [], rfl, fun b o _ q => q, by rw [upd_ne npL.symm]; exact upd_same, .nil⟩ (fun i σ H2 _ ⟨_, _, _, ex, _⟩ => SqL.of (ex _ _ npL upd_same)) (fun i u σ H2 hi h => ?_) fun σ H2 h => ?_
  · obtain ⟨o, us, rfl, ex, hL2, hw⟩ := h
    have hil : i < ts.length := by rw [hlen]; exact (List.getElem?_eq_some_iff.mp hi).1
    have ht : ts[i]? = some ts[i] := List.getElem?_eq_getElem hil
    have hLp : (upd (upd H L (.lst [])) p (.lst ys)) L = some (.lst []) := by rw [upd_ne npL.symm]; exact upd_same
    have hut : SayAt H2 ts[i] u := ((paired_get hts i _ u ht hi).mono g1).exc hLp ex
    have hus := Paired.len hw
    have hfl := fold_len (ts.take i) []
    have hmem : ts[i] ∈ ss := hpm.mem_iff.mp (List.getElem_mem hil)
    have body : ¬ ((ts.take i).foldl push []).getLast? = some ts[i] → tDrop (tBM K "list" rAppend (tVar 1) (tCons (tVar 2) tNil)) { nx := fun σ H2 => ∃ (o : Option V) (us : List V), σ = [some (.ref a), some (.ref L), o] ∧ Exc L (upd (upd H L (.lst [])) p (.lst ys)) H2 ∧ H2 L = some (.lst us) ∧ SaysAt H2 ((ts.take (i + 1)).foldl push []) us, rt := Q } [some (.ref a), some (.ref L), some u] H2 := by
      intro c
      refine ⟨_, rfl, .inl ⟨rfl, _, SqL.of hL2⟩, _, rfl, L, us, _, rfl, rfl, hL2, szml (by rw [← hus]; simp at hfl; omega), some u, us ++ [u], rfl, fun b o hb q => by rw [upd_ne hb]; exact ex _ _ hb q, upd_same, ?_⟩
      have e2 : Exc L H2 (upd H2 L (.lst (us ++ [u]))) := fun b o hb q => by rw [upd_ne hb]; exact q
      rw [take_snoc ht, List.foldl_append, List.foldl_cons, List.foldl_nil]
      rw [push_new c]
      exact paired_snoc (hut.exc hL2 e2) (SaysAt.exc hL2 e2 hw)
    refine ⟨_, rfl, L, us, rfl, .inl (SqL.of hL2), rfl, _, rfl, ?_⟩
    refine ite2 (fun c => ?_) (fun c => ?_)
    · have hu0 : us = [] := by
        have : V.int (us.length : Int) = V.int 0 := of_decide_eq_true c
        injection this with this
        exact List.eq_nil_of_length_eq_zero (by omega)
      have ht0 : (ts.take i).foldl push [] = [] := List.eq_nil_of_length_eq_zero (by rw [hus, hu0]; rfl)
      exact iteT (body (by rw [ht0]; simp))
    · have hne : (ts.take i).foldl push [] ≠ [] := by
        intro e
        rw [e] at hus
        refine c (decide_eq_true ?_)
        have : us.length = 0 := by simpa using hus.symm
        rw [this]; rfl
      obtain ⟨l, hl⟩ : ∃ l, ((ts.take i).foldl push []).getLast? = some l := ⟨_, List.getLast?_eq_some_getLast hne⟩
      obtain ⟨y, hy, hly⟩ := paired_last hw hl
      have hlm : l.ht ≤ 180 := by
        have h1 := List.mem_of_getLast? hl
        have h2 : ∀ (l told : List Say) (t : Say), t ∈ l.foldl push told → t ∈ told ∨ t ∈ l := by
          intro l
          induction l with
          | nil => intro told t h; exact .inl h
          | cons x l ih =>
            intro told t h
            rcases ih _ _ h with h | h
            · rcases (push_mem told x t).mp h with h | h
              · exact .inl h
              · exact .inr (by rw [h]; exact List.mem_cons_self ..)
            · exact .inr (List.mem_cons_of_mem _ h)
        rcases h2 _ _ _ h1 with h | h
        · cases h
        · exact hht _ (hpm.mem_iff.mp (List.mem_of_mem_take h))
      refine ⟨_, rfl, _, rfl, L, us, _, y, rfl, rfl, SqL.of hL2, last_at hy, _, rfl, l, ts[i], hly, hut, hlm, _, rfl, ?_⟩
      refine ite2 (fun c2 => ?_) (fun c2 => ?_)
      · refine body fun e => ?_
        rw [hl] at e
        have : l = ts[i] := by injection e
        rw [decide_eq_true this] at c2
        cases c2
      · refine ⟨some u, us, rfl, ex, hL2, ?_⟩
        have e : l = ts[i] := by
          cases d : decide (l = ts[i]) with
          | true => exact of_decide_eq_true d
          | false => rw [d] at c2; exact absurd rfl c2
        rw [take_snoc ht, List.foldl_append, List.foldl_cons, List.foldl_nil]
        rw [push_old (by rw [hl, e])]
        exact hw
  · obtain ⟨o, us, rfl, ex, hL2, hw⟩ := h
    rw [List.take_of_length_le (by omega)] at hw
    obtain ⟨u1, u2⟩ := fold_push ts [] List.Pairwise.nil hsr fun t ht => absurd ht (by simp)
    refine ⟨_, rfl, k L us _ H2 (fun b o q => ex _ _ (ne_of_none q hL) (g1 _ _ (g0 _ _ q))) hL hL2 hw u1 fun t => ?_⟩
    rw [u2, hpm.mem_iff]
    simp
end
end SD
namespace SD
open PySem PySem.Spec PyProof.Rows L2
section
variable {P : Program} {w : World} {K : PySem.W.Frag} {mg : Str → Option Value} {base : Heap}
/-! # parts_of, shown_parts, letters_of, things_of -/
/-- a new list of the sayings that have the property, rising -/
def NewSays (H : Hp) (Q : VK) (p : Say → Prop) : Prop := ∀ (a : Addr) (ys : List V) (ts : List Say) (H' : Hp), Same H H' → H a = none → H' a = some (.lst ys) → SaysAt H' ts ys → Up ts → (∀ t, t ∈ ts ↔ p t) → Q (.ref a) H'
def spPartsN (n : Nat) : Sp := fun vs H Q _ => ∃ (v : V) (s : Say), vs = [v] ∧ SayAt H s v ∧ s.ht < n ∧ s.ht ≤ 150 ∧ s.size ≤ 20000 ∧ NewSays H Q fun t => t ∈ s.parts
theorem cl_partsN (n : Nat) (D : Df K mg "parts_of" "parts_of" "parts_of" s_parts_of ["saying"]) (cG : Cl P w K mg base CX0 (n + 1) "gather_sayings" (spGather n)) (cO : Cl P w K mg base CX0 1 "each_once" (spOnce (K := K))) : Cl P w K mg base CX0 (n + 2) "parts_of" (spPartsN n) := by
  refine D.ok c_parts_of (fun vs H Q E h => ?_) fun f cdv A outer s H vs Q E hr h => ?_
  · obtain ⟨v, s, rfl, _⟩ := h
    rfl
  obtain ⟨v, x, rfl, hx, hhn, hh, hz, k⟩ := h
  refine ⟨_, pss_cons (ps_set (i := 1) c_parts_of.nd rfl (Or.inl rfl) (pe_lst pa_nil))
    (pss_cons (ps_expr (pe_c0 cG hr (by omega) (pa_cons (pv 0) (pa_cons (pv 1) pa_nil))))
    (pss_one (ps_ret (pe_c0 cO hr (by omega) (pa_cons (pv 1) pa_nil))))), ?_⟩
  refine ⟨sz (by decide), fun L hL => ?_⟩
  have g0 := same_new hL (.lst [])
  refine ⟨_, rfl, _, rfl, v, L, x, [], rfl, hx.mono g0, upd_same, by omega, by simpa using (by omega : x.size ≤ 50000), fun H1 ws ex hL1 hw => ?_⟩
  have g1 : Same H H1 := fun b o q => ex _ _ (ne_of_none q hL) (g0 _ _ q)
  refine ⟨_, rfl, L, ws, x.parts, rfl, SqL.of hL1, hw, fun t ht => ?_, by rw [Say.parts_len]; omega, fun p ys ts H2 g2 np hp ht hu hm => ?_⟩
  · have := Say.part_ht ht; omega
  · exact k p ys ts H2 (g1.trans g2) (g1.free np) hp ht hu hm
def spParts : Sp := fun vs H Q _ => ∃ (v : V) (s : Say), vs = [v] ∧ SayAt H s v ∧ s.ht ≤ 150 ∧ s.size ≤ 20000 ∧ NewSays H Q fun t => t ∈ s.parts
theorem cl_parts (cP : Cl P w K mg base CX0 153 "parts_of" (spPartsN 151)) : Cl P w K mg base CX0 153 "parts_of" spParts := cP.imp fun vs H Q E ⟨v, s, e, h1, h2, h3, k⟩ => ⟨v, s, e, h1, by omega, h2, h3, k⟩
def spShown : Sp := fun vs H Q _ => ∃ (v : V) (s : Say), vs = [v] ∧ SayAt H s v ∧ s.ht ≤ 150 ∧ s.size ≤ 20000 ∧ NewSays H Q fun t => t ∈ s.parts ∧ t.isShown = true
theorem ups_len {ts : List Say} {s : Say} (h : Up ts) (hm : ∀ t, t ∈ ts ↔ t ∈ s.parts) : ts.length ≤ s.size := by
  rw [← Say.parts_len]
  exact nodup_le (up_nodup h) fun t ht => (hm t).mp ht
theorem dec_isShown (s : Say) : decide (s.word = "shown") = s.isShown := by
  cases h : s.isShown with
  | true => exact decide_eq_true (word_shown.mpr h)
  | false => exact decide_eq_false fun e => by rw [word_shown.mp e] at h; cases h
theorem dec_isLetter (s : Say) : decide (s.word = "letter") = s.isLetter := by
  cases h : s.isLetter with
  | true => exact decide_eq_true (word_letter.mpr h)
  | false => exact decide_eq_false fun e => by rw [word_letter.mp e] at h; cases h
theorem cl_shown (D : Df K mg "shown_parts" "shown_parts" "shown_parts" s_shown_parts ["saying"]) (cP : Cl P w K mg base CX0 153 "parts_of" spParts) : Cl P w K mg base CX0 154 "shown_parts" spShown := by
  refine D.ok c_shown_parts (fun vs H Q E h => ?_) fun f cdv A outer s H vs Q E hr h => ?_
  · obtain ⟨v, s, rfl, _⟩ := h
    rfl
  obtain ⟨v, x, rfl, hx, hh, hz, k⟩ := h
  refine ⟨_, pss_one (ps_ret (pe_lc (own := [("part", 1)]) (g := gName 1) rfl c_shown_parts.nd (pi_list (pe_c0 cP hr (by omega) (pa_cons (pv 0) pa_nil))) (blkOk_by (own := [("part", 1)]) (N := ["saying", "part"]) (sc := defScope s_shown_parts) (by decide +kernel))
        (fun _ _ _ _ _ => pg_name (i := 1) c_shown_parts.nd rfl (Or.inl rfl)) (fun _ _ _ _ _ => pts_one (pt_cmpR op_eq (pe_ix (ixT K) (pv 1) pe_int (fun _ _ => rfl)) pe_str (nomark _))) (fun _ _ _ _ _ => pv 1))), ?_⟩
  refine ⟨_, rfl, v, x, rfl, hx, hh, hz, fun p us ts H1 g1 np hp hu up hm => ⟨p, rfl, ⟨_, SqL.of hp⟩, fun D nD => ?_⟩⟩
  have hlen := Paired.len hu
  have hul := ups_len up hm
  refine lc_on (as := ts) Say.isShown (fun (t : Say) y H => SayAt H t y) (SqL.of hp) hlen (by omega) nD (fun t y H H' acc hD ex q => q.exc hD ex) (fun j t u H2 acc C C' ht hv s1 hD hC hC' => ?_) fun ys H2 s1 hD hy => ?_
  · have htu := (paired_get hu j t u ht hv).mono s1
    refine ⟨rfl, q_is rfl htu ?_⟩
    rw [dec_isShown]
    exact ite2 (fun c => ⟨_, rfl, hC c _ _ (Same.refl _) htu⟩) fun c => hC' (Bool.eq_false_iff.mpr c) _ (Same.refl _)
  · refine k D ys (ts.filter Say.isShown) H2 (g1.trans s1) (g1.free nD) hD hy (List.Pairwise.filter _ up) fun t => ?_
    rw [List.mem_filter, hm]
def spLettersN (n : Nat) : Sp := fun vs H Q _ => ∃ (v : V) (s : Say), vs = [v] ∧ SayAt H s v ∧ s.ht < n ∧ s.ht ≤ 150 ∧ s.size ≤ 20000 ∧ ∀ (a : Addr) (H' : Hp), Same H H' → H a = none → H' a = some (.lst ((lets s).map fun c => V.str c.str)) → Q (.ref a) H'
theorem cl_lettersN (n : Nat) (D : Df K mg "letters_of" "letters_of" "letters_of" s_letters_of ["saying"]) (cP : Cl P w K mg base CX0 (n + 2) "parts_of" (spPartsN n)) : Cl P w K mg base CX0 (n + 3) "letters_of" (spLettersN n) := by
  refine D.ok c_letters_of (fun vs H Q E h => ?_) fun f cdv A outer s H vs Q E hr h => ?_
  · obtain ⟨v, s, rfl, _⟩ := h
    rfl
  obtain ⟨v, x, rfl, hx, hhn, hh, hz, k⟩ := h
  refine ⟨_, pss_one (ps_ret (pe_lc (own := [("part", 1)]) (g := gName 1) rfl c_letters_of.nd (pi_list (pe_c0 cP hr (by omega) (pa_cons (pv 0) pa_nil))) (blkOk_by (own := [("part", 1)]) (N := ["saying", "part"]) (sc := defScope s_letters_of) (by decide +kernel))
        (fun _ _ _ _ _ => pg_name (i := 1) c_letters_of.nd rfl (Or.inl rfl)) (fun _ _ _ _ _ => pts_one (pt_cmpR op_eq (pe_ix (ixT K) (pv 1) pe_int (fun _ _ => rfl)) pe_str (nomark _))) (fun _ _ _ _ _ => pe_ix (ixT K) (pv 1) pe_int (fun _ _ => rfl)))), ?_⟩
  refine ⟨_, rfl, v, x, rfl, hx, hhn, hh, hz, fun p us ts H1 g1 np hp hu up hm => ⟨p, rfl, ⟨_, SqL.of hp⟩, fun D nD => ?_⟩⟩
  have hlen := Paired.len hu
  have hul := ups_len up hm
  refine lc_on (as := ts) Say.isLetter (fun (t : Say) y _ => ∀ c, t = .letter c → y = .str c.str) (SqL.of hp) hlen (by omega) nD (fun _ _ _ _ _ _ _ q => q) (fun j t u H2 acc C C' ht hv s1 hD hC hC' => ?_) fun ys H2 s1 hD hy => ?_
  · have htu := (paired_get hu j t u ht hv).mono s1
    refine ⟨rfl, q_is rfl htu ?_⟩
    rw [dec_isLetter]
    refine ite2 (fun c => ?_) fun c => hC' (Bool.eq_false_iff.mpr c) _ (Same.refl _)
    cases t <;> simp [Say.isLetter] at c
    rename_i d
    obtain ⟨a, rfl, ha⟩ := htu
    exact ⟨_, rfl, a, _, _, _, rfl, rfl, SqT.of ha, at1, hC rfl _ _ (Same.refl _) fun c e => by injection e with e; rw [e]⟩
  · rw [lets_of up hm] at hy
    have e : ys = (lets x).map fun c => V.str c.str := by
      have : ∀ {l : List Ltr} {m : List V}, Paired (fun t y => ∀ c, t = Say.letter c → y = V.str c.str) (l.map Say.letter) m → m = l.map fun c => V.str c.str := by
        intro l
        induction l with
        | nil => intro m h; cases h; rfl
        | cons c l ih => intro m h; cases h with | cons a t => rw [ih t, a c rfl]; rfl
      exact this hy
    subst e
    exact k D H2 (g1.trans s1) (g1.free nD) hD
def spLetters : Sp := fun vs H Q _ => ∃ (v : V) (s : Say), vs = [v] ∧ SayAt H s v ∧ s.ht ≤ 150 ∧ s.size ≤ 20000 ∧ ∀ (a : Addr) (H' : Hp), Same H H' → H a = none → H' a = some (.lst ((lets s).map fun c => V.str c.str)) → Q (.ref a) H'
theorem cl_letters (cL : Cl P w K mg base CX0 154 "letters_of" (spLettersN 151)) : Cl P w K mg base CX0 154 "letters_of" spLetters := cL.imp fun vs H Q E ⟨v, s, e, h1, h2, h3, k⟩ => ⟨v, s, e, h1, by omega, h2, h3, k⟩
/-- things_of: the letters as texts, behind them the shown parts -/
def spThings : Sp := fun vs H Q _ => ∃ (v : V) (s : Say), vs = [v] ∧ SayAt H s v ∧ s.ht ≤ 150 ∧ s.size ≤ 20000 ∧ ∀ (a : Addr) (ys : List V) (ts : List Say) (H' : Hp), Same H H' → H a = none → H' a = some (.lst ((lets s).map (fun c => V.str c.str) ++ ys)) → SaysAt H' ts ys → Up ts → (∀ t, t ∈ ts ↔ t ∈ s.parts ∧ t.isShown = true) → Q (.ref a) H'
theorem cl_things (D : Df K mg "things_of" "things_of" "things_of" s_things_of ["saying"]) (cL : Cl P w K mg base CX0 154 "letters_of" spLetters) (cS : Cl P w K mg base CX0 154 "shown_parts" spShown) : Cl P w K mg base CX0 155 "things_of" spThings := by
  refine D.ok c_things_of (fun vs H Q E h => ?_) fun f cdv A outer s H vs Q E hr h => ?_
  · obtain ⟨v, s, rfl, _⟩ := h
    rfl
  obtain ⟨v, x, rfl, hx, hh, hz, k⟩ := h
  refine ⟨_, pss_one (ps_ret (pe_op op_cat (pe_c0 cL hr (by omega) (pa_cons (pv 0) pa_nil)) (pe_c0 cS hr (by omega) (pa_cons (pv 0) pa_nil)))), ?_⟩
  refine ⟨_, rfl, v, x, rfl, hx, hh, hz, fun a H1 g1 na ha => ?_⟩
  refine ⟨_, rfl, v, x, rfl, hx.mono g1, hh, hz, fun b ys ts H2 g2 nb hb ht up hm => ?_⟩
  have hl := Paired.len ht
  have h2 : ts.length ≤ x.size := by
    rw [← Say.parts_len]
    exact nodup_le (up_nodup up) fun t ht => ((hm t).mp ht).1
  have h3 : (lets x).length ≤ 3 := List.length_filter_le _ _
  refine ⟨a, b, _, _, rfl, rfl, g2 _ _ ha, hb, szm (by rw [List.length_map]; omega), fun p hp => ?_⟩
  have g3 := same_new hp (.lst ((lets x).map (fun c => V.str c.str) ++ ys))
  exact k p ys ts _ (g1.trans (g2.trans g3)) (g1.free (g2.free hp)) upd_same (ht.mono g3) up hm
/-! # claims -/
def spUnlike : Sp := spOnce (K := K)
theorem cl_unlike (D : Df K mg "unlike" "unlike" "unlike" s_unlike ["sayings"]) (cO : Cl P w K mg base CX0 1 "each_once" (spOnce (K := K))) : Cl P w K mg base CX0 2 "unlike" (spOnce (K := K)) := by
  refine D.ok c_unlike (fun vs H Q E h => ?_) fun f cdv A outer s H vs Q E hr h => ?_
  · obtain ⟨a, xs, ss, rfl, _⟩ := h
    rfl
  obtain ⟨a, xs, ss, rfl, hS⟩ := h
  refine ⟨_, pss_one (ps_ret (pe_c0 cO hr (by omega) (pa_cons (pv 0) pa_nil))), ?_⟩
  exact ⟨_, rfl, a, xs, ss, rfl, hS⟩
/-- a list of sayings at a, none too deep -/
def Lst (K : PySem.W.Frag) (H : Hp) (a : Addr) (xs : List V) (ss : List Say) : Prop := SqL K H a xs ∧ SaysAt H ss xs ∧ (∀ s ∈ ss, s.ht ≤ 150) ∧ ss.length ≤ 100
def spClaim : Sp := fun vs H Q _ => ∃ (a b : Addr) (xs ys : List V) (ss ts : List Say), vs = [.ref a, .ref b] ∧ Lst K H a xs ss ∧ Lst K H b ys ts ∧
  ∀ (q l r : Addr) (us zs : List V) (ls rs : List Say) (H' : Hp), Same H H' → H q = none → H' q = some (.tup [.ref l, .ref r]) → H' l = some (.lst us) → H' r = some (.lst zs) → SaysAt H' ls us → SaysAt H' rs zs → Up ls → Up rs → (∀ t, t ∈ ls ↔ t ∈ ss) → (∀ t, t ∈ rs ↔ t ∈ ts) → Q (.ref q) H'
theorem cl_claim (D : Df K mg "claim_of" "claim_of" "claim_of" s_claim_of ["left", "right"]) (cU : Cl P w K mg base CX0 2 "unlike" (spOnce (K := K))) : Cl P w K mg base CX0 3 "claim_of" (spClaim (K := K)) := by
  refine D.ok c_claim_of (fun vs H Q E h => ?_) fun f cdv A outer s H vs Q E hr h => ?_
  · obtain ⟨a, b, xs, ys, ss, ts, rfl, _⟩ := h
    rfl
  obtain ⟨a, b, xs, ys, ss, ts, rfl, ⟨a1, a2, a3, a4⟩, ⟨b1, b2, b3, b4⟩, k⟩ := h
  refine ⟨_, pss_one (ps_ret (pe_tup (pa_cons (pe_c0 cU hr (by omega) (pa_cons (pv 0) pa_nil)) (pa_cons (pe_c0 cU hr (by omega) (pa_cons (pv 1) pa_nil)) pa_nil)))), ?_⟩
  refine ⟨_, rfl, a, xs, ss, rfl, a1, a2, fun s hs => by have := a3 s hs; omega, by omega, fun l us ls H1 g1 nl hl h1 u1 m1 => ?_⟩
  refine ⟨_, rfl, b, ys, ts, rfl, g1.seq b1, b2.mono g1, fun s hs => by have := b3 s hs; omega, by omega, fun r zs rs H2 g2 nr hr2 h2 u2 m2 => ?_⟩
  refine ⟨sz (n := 2) (by decide), fun q hq => ?_⟩
  have g3 := same_new hq (.tup [.ref l, .ref r])
  exact k q l r us zs ls rs _ (g1.trans (g2.trans g3)) (g1.free (g2.free hq)) upd_same (g3 _ _ (g2 _ _ hl)) (g3 _ _ hr2) (h1.mono (g2.trans g3)) (h2.mono g3) u1 u2 m1 m2
end
end SD
namespace SD
open PySem PySem.Spec PyProof.Rows L2 SX
section
variable {P : Program} {w : World} {K : PySem.W.Frag} {mg : Str → Option Value} {base : Heap}
/-! # put -/
theorem kids_put (s : Say) (c : Ltr) (t : Say) (h : s.leaf = false) : (s.put c t).kids = s.kids.map (fun x => x.put c t) ∧ (s.put c t).word = s.word ∧ (s.put c t).leaf = false := by
  cases s <;> simp [Say.leaf, Say.kids] at h <;> simp [Say.put, Say.kids, Say.word, Say.leaf]
/-- a tuple of the word and the kids is the saying -/
theorem say_mk {H : Hp} {s : Say} {a : Addr} {us : List V} (h : s.leaf = false) (ha : H a = some (.tup (.str s.word :: us))) (hu : SaysAt H s.kids us) : SayAt H s (.ref a) := by
  cases s with
  | no => simp [Say.leaf, Say.kids] at h
  | letter => simp [Say.leaf, Say.kids] at h
  | neg x => cases hu with | cons h1 t => cases t; exact ⟨a, _, rfl, ha, h1⟩
  | shown x => cases hu with | cons h1 t => cases t; exact ⟨a, _, rfl, ha, h1⟩
  | bin o x y => cases hu with | cons h1 t => cases t with | cons h2 t => cases t; exact ⟨a, _, _, rfl, ha, h1, h2⟩
def spPut (n : Nat) : Sp := fun vs H Q _ => ∃ (v u : V) (d : Addr) (s t : Say) (c : Ltr), vs = [v, .ref d] ∧ SayAt H s v ∧ H d = some (.dK [(Sum.inr c.str, u)]) ∧ SayAt H t u ∧ s.ht < n ∧ ∀ (z : V) (H' : Hp), Same H H' → SayAt H' (s.put c t) z → Q z H'
theorem val_one (c d : Ltr) (u : V) : valV [((Sum.inr c.str : Key), u)] (Sum.inr d.str) = if d = c then some u else none := by
  by_cases h : d = c
  · subst h
    rw [if_pos rfl]
    unfold valV
    simp [List.find?]
  · rw [if_neg h]
    have hn : ¬ (Sum.inr c.str : Key) = Sum.inr d.str := fun e => h (lstr_inj (Sum.inr.inj e)).symm
    unfold valV
    simp [List.find?, hn]
theorem word_lit (d : Ltr) : (Say.letter d).word = "letter" := rfl
theorem cl_put (D : Df K mg "put" "put" "put" s_put ["saying", "sayings"]) (T : Tx mg) : ∀ n : Nat, Cl P w K mg base CX0 (n + 1) "put" (spPut n)
  | 0 => D.no fun vs H Q E h => by
    obtain ⟨v, u, d, s, t, c, _, _, _, _, h, _⟩ := h
    omega
  | n + 1 => by
    have ih := cl_put D T n
    refine D.ok c_put (fun vs H Q E h => ?_) fun f cdv A outer s H vs Q E hr h => ?_
    · obtain ⟨v, u, d, s, t, c, rfl, _⟩ := h
      rfl
    obtain ⟨v, u, d, x, t, c, rfl, hx, hd, ht, hh, k⟩ := h
    have hu := hu_of hr
    refine ⟨_, pss_cons (ps_if (pt_cmpR op_eq (pe_ix ix_tup (pv 0) pe_int (fun _ _ => rfl)) pe_str (nomark _)) (pss_one (ps_ret (pv 0))) pss_nil)
      (pss_cons (ps_if (pt_cmpR op_eq (pe_ix ix_tup (pv 0) pe_int (fun _ _ => rfl)) pe_str (nomark _)) (pss_one (ps_ret (pe_dget2 hu (pv 1) (pe_ix ix_tup (pv 0) pe_int (fun _ _ => rfl)) (pv 0) ⟨rfl, rfl, rfl, rfl⟩))) pss_nil)
      (pss_one (ps_ret (pe_callTy call_tuple_of rfl T.tuple (by decide +kernel) (pa_cons (pe_op op_cat (pe_lst (pa_cons (pe_ix ix_tup (pv 0) pe_int (fun _ _ => rfl)) pa_nil))
        (pe_lc (own := [("part", 2)]) (g := gName 2) rfl c_put.nd (pi_tup (pe_slice sl_tup (pv 0) (po_some pe_int) po_none)) (blkOk_by (own := [("part", 2)]) (N := ["saying", "sayings", "part"]) (sc := defScope s_put) (by decide +kernel))
          (fun _ _ _ _ _ => pg_name (i := 2) c_put.nd rfl (Or.inl rfl)) (fun _ _ _ _ _ => pts_nil) (fun _ _ _ _ _ => pe_c0 ih hr (by omega) (pa_cons (pv 2) (pa_cons (pv 1) pa_nil))))) pa_nil))))), ?_⟩
    refine q_is rfl hx (ite2 (fun c1 => ?_) fun c1 => ?_)
    · have e := word_no.mp (of_decide_eq_true c1)
      subst e
      exact ⟨_, rfl, k v H (Same.refl _) hx⟩
    refine q_is rfl hx (ite2 (fun c2 => ?_) fun c2 => ?_)
    · have e := word_letter.mp (of_decide_eq_true c2)
      cases x <;> simp [Say.isLetter] at e
      rename_i l
      obtain ⟨a, rfl, ha⟩ := id hx
      refine ⟨_, rfl, d, rfl, .inl ⟨_, .inl hd⟩, _, rfl, a, _, _, _, rfl, rfl, SqT.of ha, at1, _, rfl, _, DGet.k (k := Sum.inr l.str) hd, ?_⟩
      rw [val_one]
      have e2 := fun z h => k z H (Same.refl _) h
      simp only [Say.put] at e2
      by_cases hl : l = c
      · rw [if_pos hl]; rw [if_pos hl] at e2; exact e2 _ ht
      · rw [if_neg hl]; rw [if_neg hl] at e2; exact e2 _ hx
    have hl : x.leaf = false := by
      cases x <;> first | rfl | skip
      · exact absurd (decide_eq_true rfl) c1
      · exact absurd (decide_eq_true rfl) c2
    obtain ⟨a, us, rfl, ha, hus⟩ := hx.kids hl
    obtain ⟨e1, e2, e3⟩ := kids_put x c t hl
    refine ⟨_, rfl, a, _, _, _, rfl, rfl, SqT.of ha, at0, sz (n := 1) (by decide), fun l nl => ?_⟩
    have g1 := same_new nl (.lst [.str x.word])
    refine ⟨_, rfl, _, rfl, a, _, rfl, SqT.of (g1 _ _ ha), not_whole, fun q nq => ?_⟩
    rw [cut_rest]
    have g2 := same_new nq (.tup us)
    refine ⟨q, rfl, ⟨_, SqT.of upd_same⟩, fun D nD => ?_⟩
    have hlen := Paired.len hus
    have g12 := g1.trans g2
    refine lc_onT (as := x.kids) (fun _ => true) (fun (s : Say) y H => SayAt H (s.put c t) y) (SqT.of upd_same) hlen (by have := kids_len x; omega) nD (fun t y H H' acc hD ex q => q.exc hD ex) (fun j s z H2 acc C C' hs hz s1 hD hC _ => ?_) fun ys H2 s1 hD hy => ?_
    · refine ⟨rfl, q_yes _ _ ?_⟩
      have tm := List.mem_of_getElem? hs
      have := kid_ht tm
      exact ⟨_, rfl, _, rfl, z, u, d, s, t, c, rfl, (paired_get hus j s z hs hz).mono (g12.trans s1), s1 _ _ (g12 _ _ hd), ht.mono (g12.trans s1), by omega, fun z' H3 g3 h3 => hC rfl _ _ g3 h3⟩
    · rw [filter_true] at hy
      have hyl := Paired.len hy
      have hk := kids_len x
      refine ⟨l, D, _, _, rfl, rfl, s1 _ _ (g2 _ _ upd_same), hD, sz (n := 1 + ys.length) (by omega), fun m nm => ?_⟩
      have g3 := same_new nm (.lst ([.str x.word] ++ ys))
      refine ⟨m, _, rfl, .inl ⟨SqL.of upd_same, fun r nr => ?_⟩⟩
      have g4 := same_new nr (.tup ([.str x.word] ++ ys))
      refine k _ _ (g12.trans (s1.trans (g3.trans g4))) (say_mk e3 (us := ys) ?_ ?_)
      · rw [e2]; exact upd_same
      · rw [e1]
        have : ∀ {l : List Say} {m : List V}, Paired (fun s y => SayAt H2 (s.put c t) y) l m → SaysAt H2 (l.map fun s => s.put c t) m := fun h => paired_map (f := fun s : Say => s.put c t) (G := SayAt H2) (fun _ _ q => q) h
        exact (this hy).mono (g3.trans g4)
end
end SD
namespace SD
open PySem PySem.Spec PyProof.Rows L2 SX
/-- the module's table x -/
structure TabAt (K : PySem.W.Frag) (w : World) (mg : Str → Option Value) (x : Str) (kvs : List (Str × V)) : Prop where
  ex : ∃ a es n, mg x = some (.ref a) ∧ KDict K w a es n ∧ ∀ p ∈ kvs, KDct K w a p.1 p.2
theorem S_lit : (("0" : Str) = S [48] ∧ ("~" : Str) = S [126] ∧ ("[" : Str) = S [91] ∧ ("]" : Str) = S [93]) ∧ ("(" : Str) = S [40] ∧ (")" : Str) = S [41] ∧ ("&" : Str) = S [38] ∧ ("|" : Str) = S [124] ∧ (">" : Str) = S [62] := by decide +kernel
theorem lstr_S (c : Ltr) : c.str = S [c.code] := rfl
section
variable {K : PySem.W.Frag} {σ : L2.St} {H : Hp} {i : Nat} {x wd : Str}
/-- name == word, as a test -/
theorem q_slot {Q : Bool → Hp → Prop} (hσ : σ[i]? = some (some (.str x))) (q : Q (decide (x = wd)) H) : tTest (tOp rEq (tVar i) (tC (.str wd))) σ H Q := by
  refine ⟨_, hσ, rfl, _, rfl, ?_⟩
  rw [show decide (V.str x = V.str wd) = decide (x = wd) from decide_eq_decide.mpr ⟨fun e => by injection e, fun e => by rw [e]⟩]
  exact q
/-- f(saying[j]) -/
theorem q_ix {Q : VK} {a : Addr} {xs : List V} {j : Int} {y : V} (hσ : σ[i]? = some (some (.ref a))) (h : H a = some (.tup xs)) (hj : atI xs j = some y) (q : Q y H) : tOp (rIxT K) (tVar i) (tC (.int j)) σ H Q :=
  ⟨_, hσ, a, _, _, _, rfl, rfl, SqT.of h, hj, q⟩
end
section
variable {P : Program} {w : World} {K : PySem.W.Frag} {mg : Str → Option Value} {base : Heap}
/-! # texts of sayings -/
def spText (n : Nat) : Sp := fun vs H Q _ => ∃ (v : V) (s : Say), vs = [v] ∧ SayAt H s v ∧ s.ht < n ∧ s.size ≤ 20000 ∧ ∀ H', Same H H' → Q (.str (S s.text)) H'
theorem S_length (l : List Nat) : (S l).length = l.length := S_len l
theorem cl_written (D : Df K mg "written" "written" "written" s_written ["saying"]) (TS : TabAt K w mg "SIGNS" [("and", .str "&"), ("or", .str "|"), ("if", .str ">")]) : ∀ n : Nat, Cl P w K mg base CX0 (n + 1) "written" (spText n)
  | 0 => D.no fun vs H Q E h => by
    obtain ⟨v, s, _, _, h, _⟩ := h
    omega
  | n + 1 => by
    have ih := cl_written D TS n
    refine D.ok c_written (fun vs H Q E h => ?_) fun f cdv A outer s H vs Q E hr h => ?_
    · obtain ⟨v, s, rfl, _⟩ := h
      rfl
    obtain ⟨v, x, rfl, hx, hh, hz, k⟩ := h
    obtain ⟨aS, es, nS, mS, kS, vS⟩ := TS.ex
    refine ⟨_, pss_cons (ps_set (i := 1) c_written.nd rfl (Or.inl rfl) (pe_ix ix_tup (pv 0) pe_int (fun _ _ => rfl)))
      (pss_cons (ps_if (pt_cmpR op_eq (pv 1) pe_str (nomark _)) (pss_one (ps_ret pe_str)) pss_nil)
      (pss_cons (ps_if (pt_cmpR op_eq (pv 1) pe_str (nomark _)) (pss_one (ps_ret (pe_ix ix_tup (pv 0) pe_int (fun _ _ => rfl)))) pss_nil)
      (pss_cons (ps_if (pt_cmpR op_eq (pv 1) pe_str (nomark _)) (pss_one (ps_ret (pe_op op_add_str pe_str (pe_c0 ih hr (by omega) (pa_cons (pe_ix ix_tup (pv 0) pe_int (fun _ _ => rfl)) pa_nil))))) pss_nil)
      (pss_cons (ps_if (pt_cmpR op_eq (pv 1) pe_str (nomark _)) (pss_one (ps_ret (pe_op op_add_str (pe_op op_add_str pe_str (pe_c0 ih hr (by omega) (pa_cons (pe_ix ix_tup (pv 0) pe_int (fun _ _ => rfl)) pa_nil))) pe_str))) pss_nil)
      (pss_one (ps_ret (pe_op op_add_str (pe_op op_add_str (pe_op op_add_str (pe_op op_add_str pe_str (pe_c0 ih hr (by omega) (pa_cons (pe_ix ix_tup (pv 0) pe_int (fun _ _ => rfl)) pa_nil)))
        (pe_ix ix_kdict (pe_glob (v := .ref aS) rfl mS rfl) (pv 1) (fun _ _ => rfl))) (pe_c0 ih hr (by omega) (pa_cons (pe_ix ix_tup (pv 0) pe_int (fun _ _ => rfl)) pa_nil))) pe_str))))))), ?_⟩
    refine q_word rfl hx ?_
    have e2 := fun z => k z
    refine q_slot rfl (ite2 (fun c1 => ?_) fun c1 => ?_)
    · have e := word_no.mp (of_decide_eq_true c1)
      subst e
      show Q (.str "0") H
      rw [S_lit.1.1]
      exact k H (Same.refl _)
    refine q_slot rfl (ite2 (fun c2 => ?_) fun c2 => ?_)
    · have e := word_letter.mp (of_decide_eq_true c2)
      cases x <;> simp [Say.isLetter] at e
      obtain ⟨a, rfl, ha⟩ := id hx
      exact q_ix rfl ha at1 (k H (Same.refl _))
    refine q_slot rfl (ite2 (fun c3 => ?_) fun c3 => ?_)
    · obtain ⟨y, rfl⟩ := word_not.mp (of_decide_eq_true c3)
      obtain ⟨a, u, rfl, ha, hu⟩ := id hx
      have hl := (Say.text_len y).1
      simp only [Say.ht] at hh
      simp only [Say.size] at hz
      refine q_ix rfl ha at1 ⟨u, y, rfl, hu, by omega, by omega, fun H1 g1 => ?_⟩
      refine ⟨_, _, rfl, rfl, ?_, ?_⟩
      · rw [S_lit.1.2.1, S_length, S_length]; exact szm (by simp; omega)
      · rw [S_lit.1.2.1, S_cat]; exact k H1 g1
    refine q_slot rfl (ite2 (fun c4 => ?_) fun c4 => ?_)
    · have e := word_shown.mp (of_decide_eq_true c4)
      cases x <;> simp [Say.isShown] at e
      rename_i y
      obtain ⟨a, u, rfl, ha, hu⟩ := id hx
      have hl := (Say.text_len y).1
      simp only [Say.ht] at hh
      simp only [Say.size] at hz
      refine q_ix rfl ha at1 ⟨u, y, rfl, hu, by omega, by omega, fun H1 g1 => ?_⟩
      refine ⟨_, _, rfl, rfl, ?_, _, _, rfl, rfl, ?_, ?_⟩
      · rw [S_lit.1.2.2.1, S_length, S_length]; exact szm (by simp; omega)
      · rw [S_lit.1.2.2.1, S_lit.1.2.2.2, S_cat, S_length, S_length]; exact szm (by simp; omega)
      · rw [S_lit.1.2.2.1, S_lit.1.2.2.2, S_cat, S_cat]; exact k H1 g1
    cases x with
    | no => exact absurd (decide_eq_true rfl) c1
    | letter => exact absurd (decide_eq_true rfl) c2
    | neg => exact absurd (decide_eq_true rfl) c3
    | shown => exact absurd (decide_eq_true rfl) c4
    | bin o y z =>
      obtain ⟨a, u, u', rfl, ha, hu, hu'⟩ := id hx
      have hl := (Say.text_len y).1
      have hl' := (Say.text_len z).1
      simp only [Say.ht] at hh
      simp only [Say.size] at hz
      have sg : KDct K w aS o.word (.str (S [o.sign])) := by
        cases o
        · have := vS ("and", .str "&") (by simp); rw [S_lit.2.2.2.1] at this; exact this
        · have := vS ("or", .str "|") (by simp); rw [S_lit.2.2.2.2.1] at this; exact this
        · have := vS ("if", .str ">") (by simp); rw [S_lit.2.2.2.2.2] at this; exact this
      refine q_ix rfl ha at1 ⟨u, y, rfl, hu, by omega, by omega, fun H1 g1 => ?_⟩
      rw [S_lit.2.1, S_lit.2.2.1]
      refine ⟨_, _, rfl, rfl, ?_, ?_⟩
      · rw [S_length, S_length]; exact szm (by simp; omega)
      rw [S_cat]
      refine ⟨_, rfl, aS, _, _, rfl, rfl, sg, _, _, rfl, rfl, ?_, ?_⟩
      · rw [S_length, S_length]; exact szm (by simp; omega)
      rw [S_cat]
      refine q_ix rfl (g1 _ _ ha) at2 ⟨u', z, rfl, hu'.mono g1, by omega, by omega, fun H2 g2 => ?_⟩
      refine ⟨_, _, rfl, rfl, ?_, _, _, rfl, rfl, ?_, ?_⟩
      · rw [S_length, S_length]; exact szm (by simp; omega)
      · rw [S_cat, S_length, S_length]; exact szm (by simp; omega)
      · rw [S_cat, S_cat]
        have q := k H2 (g1.trans g2)
        simp only [Say.text] at q
        simpa using q
end
end SD
namespace SD
open PySem PySem.Spec PyProof.Rows L2 SX
section
variable {P : Program} {w : World} {K : PySem.W.Frag} {mg : Str → Option Value} {base : Heap}
/-! # the law's own size, depth, outside -/
theorem cl_lsize (D : Df K mg "_law_size" "_law_size" "_law_size" s_law_size ["_law_saying"]) (T : Tx mg) : ∀ n : Nat, Cl P w K mg base CX0 (n + 1) "_law_size" (spSize n)
  | 0 => D.no fun vs H Q E h => by
    obtain ⟨v, s, _, _, h, _⟩ := h
    omega
  | n + 1 => by
    have ih := cl_lsize D T n
    refine D.ok c_law_size (fun vs H Q E h => ?_) fun f cdv A outer s H vs Q E hr h => ?_
    · obtain ⟨v, s, rfl, _⟩ := h
      rfl
    obtain ⟨v, x, rfl, hx, hh, hz, k⟩ := h
    refine ⟨_, pss_cons (ps_if (PW.pt (pw_or (pt_cmpR op_eq (pe_ix ix_tup (pv 0) pe_int (fun _ _ => rfl)) pe_str (nomark _)) (pw_or1 (pt_cmpR op_eq (pe_ix ix_tup (pv 0) pe_int (fun _ _ => rfl)) pe_str (nomark _))))) (pss_one (ps_ret pe_int)) pss_nil)
      (pss_one (ps_ret (pe_op op_add pe_int (pe_callB (cr_sum rfl) rfl T.sum (by decide +kernel)
      (pa_cons (pe_lc (own := [("_law_part", 1)]) (g := gName 1) rfl c_law_size.nd (pi_tup (pe_slice sl_tup (pv 0) (po_some pe_int) po_none)) (blkOk_by (own := [("_law_part", 1)]) (N := ["_law_saying", "_law_part"]) (sc := defScope s_law_size) (by decide +kernel))
        (fun _ _ _ _ _ => pg_name (i := 1) c_law_size.nd rfl (Or.inl rfl)) (fun _ _ _ _ _ => pts_nil) (fun _ _ _ _ _ => pe_c0 ih hr (by omega) (pa_cons (pv 1) pa_nil))) pa_nil))))), ?_⟩
    refine q_leaf rfl hx (ite2 (fun c => ?_) fun c => ?_)
    · have := k H (Same.refl _)
      rw [leaf_size c] at this
      exact this
    have hl := Bool.eq_false_iff.mpr c
    obtain ⟨a, us, rfl, ha, hu⟩ := hx.kids hl
    refine ⟨_, rfl, _, rfl, a, _, rfl, SqT.of ha, not_whole, fun q hq => ?_⟩
    rw [cut_rest]
    have g1 := same_new hq (.tup us)
    refine ⟨q, rfl, ⟨_, SqT.of upd_same⟩, fun D nD => ?_⟩
    have hlen := Paired.len hu
    refine lc_onT (as := x.kids) (fun _ => true) (fun (t : Say) y _ => y = .int t.size) (SqT.of upd_same) hlen (by have := kids_len x; omega) nD (fun _ _ _ _ _ _ _ h => h) (fun j t v H2 acc C C' ht hv s1 hD hC _ => ?_) fun ys H2 s1 hD hy => ?_
    · refine ⟨rfl, q_yes _ _ ?_⟩
      have tm := List.mem_of_getElem? ht
      have := kid_ht tm
      have := kid_size tm
      exact ⟨_, rfl, v, t, rfl, (paired_get hu j t v ht hv).mono (g1.trans s1), by omega, by omega, fun H3 g3 => hC rfl _ _ g3 rfl⟩
    · rw [filter_true] at hy
      have e := paired_eq hy
      refine ⟨D, x.kids.map (fun t => ((t.size : Nat) : Int)), rfl, ?_, ?_⟩
      · rw [List.map_map]; exact SqL.of (by rw [hD, e]; rfl)
      · refine ⟨_, _, rfl, rfl, ?_⟩
        have e2 := k H2 (g1.trans s1)
        rw [← sizes_sum x hl] at e2
        exact e2
theorem kidMax_isShown (s : Say) : s.leaf = false → (s.depth : Int) = (if s.isShown then 1 else 0) + (kidMax s : Int) := by
  intro h
  cases s <;> simp [Say.leaf, Say.kids] at h <;> simp [Say.depth, Say.isShown, kidMax] <;> omega
theorem cl_ldepth (D : Df K mg "_law_depth" "_law_depth" "_law_depth" s_law_depth ["_law_saying"]) (T : Tx mg) : ∀ n : Nat, Cl P w K mg base CX0 (n + 1) "_law_depth" (spDepth n)
  | 0 => D.no fun vs H Q E h => by
    obtain ⟨v, s, _, _, h, _⟩ := h
    omega
  | n + 1 => by
    have ih := cl_ldepth D T n
    refine D.ok c_law_depth (fun vs H Q E h => ?_) fun f cdv A outer s H vs Q E hr h => ?_
    · obtain ⟨v, s, rfl, _⟩ := h
      rfl
    obtain ⟨v, x, rfl, hx, hh, k⟩ := h
    refine ⟨_, pss_cons (ps_if (PW.pt (pw_or (pt_cmpR op_eq (pe_ix ix_tup (pv 0) pe_int (fun _ _ => rfl)) pe_str (nomark _)) (pw_or1 (pt_cmpR op_eq (pe_ix ix_tup (pv 0) pe_int (fun _ _ => rfl)) pe_str (nomark _))))) (pss_one (ps_ret pe_int)) pss_nil)
      (pss_one (ps_ret (pe_op op_add (pe_callTy call_int1 rfl T.int (by decide +kernel) (pa_cons (pe_cmpR op_eq (pe_ix ix_tup (pv 0) pe_int (fun _ _ => rfl)) pe_str (nomark _)) pa_nil)) (pe_callB (cr_max rfl) rfl T.max (by decide +kernel)
      (pa_cons (pe_lc (own := [("_law_part", 1)]) (g := gName 1) rfl c_law_depth.nd (pi_tup (pe_slice sl_tup (pv 0) (po_some pe_int) po_none)) (blkOk_by (own := [("_law_part", 1)]) (N := ["_law_saying", "_law_part"]) (sc := defScope s_law_depth) (by decide +kernel))
        (fun _ _ _ _ _ => pg_name (i := 1) c_law_depth.nd rfl (Or.inl rfl)) (fun _ _ _ _ _ => pts_nil) (fun _ _ _ _ _ => pe_c0 ih hr (by omega) (pa_cons (pv 1) pa_nil))) pa_nil))))), ?_⟩
    refine q_leaf rfl hx (ite2 (fun c => ?_) fun c => ?_)
    · have := k H (Same.refl _)
      have e0 : x.depth = 0 := by cases x <;> first | rfl | (simp [Say.leaf, Say.kids] at c)
      rw [e0] at this
      exact this
    have hl := Bool.eq_false_iff.mpr c
    obtain ⟨a, us, rfl, ha, hu⟩ := hx.kids hl
    refine q_word rfl hx ⟨rfl, .inr ⟨_, rfl, ?_⟩⟩
    refine ⟨_, rfl, _, rfl, a, _, rfl, SqT.of ha, not_whole, fun q hq => ?_⟩
    rw [cut_rest]
    have g1 := same_new hq (.tup us)
    refine ⟨q, rfl, ⟨_, SqT.of upd_same⟩, fun D nD => ?_⟩
    have hlen := Paired.len hu
    refine lc_onT (as := x.kids) (fun _ => true) (fun (t : Say) y _ => y = .int t.depth) (SqT.of upd_same) hlen (by have := kids_len x; omega) nD (fun _ _ _ _ _ _ _ h => h) (fun j t v H2 acc C C' ht hv s1 hD hC _ => ?_) fun ys H2 s1 hD hy => ?_
    · refine ⟨rfl, q_yes _ _ ?_⟩
      have tm := List.mem_of_getElem? ht
      have := kid_ht tm
      exact ⟨_, rfl, v, t, rfl, (paired_get hu j t v ht hv).mono (g1.trans s1), by omega, fun H3 g3 => hC rfl _ _ g3 rfl⟩
    · rw [filter_true] at hy
      have e := paired_eq hy
      refine ⟨D, x.kids.map (fun t => ((t.depth : Nat) : Int)), rfl, ?_, ?_, fun m hm hg => ?_⟩
      · rw [List.map_map]; exact SqL.of (by rw [hD, e]; rfl)
      · rw [List.length_map]
        cases x <;> simp [Say.leaf, Say.kids] at hl <;> simp [Say.kids]
      · refine ⟨_, _, rfl, rfl, ?_⟩
        have e2 := k H2 (g1.trans s1)
        rw [kidMax_isShown x hl] at e2
        rw [kidMax_ok hm hg]
        have e3 : decide (V.str x.word = V.str "shown") = x.isShown := by
          rw [← dec_isShown]
          exact decide_eq_decide.mpr ⟨fun e => by injection e, fun e => by rw [e]⟩
        rw [e3]
        exact e2
def spOutside (n : Nat) : Sp := fun vs H Q _ => ∃ (v : V) (s : Say), vs = [v] ∧ SayAt H s v ∧ s.ht < n ∧ ∀ H', Same H H' → Q (.bl s.outside) H'
theorem any_map {α : Type} (f : α → Bool) (l : List α) : (l.map f).any id = l.any f := by induction l <;> simp_all
theorem outside_kids {s : Say} (h1 : s.isShown = false) (h2 : s.isLetter = false) : s.outside = s.kids.any Say.outside := by
  cases s <;> simp [Say.isShown, Say.isLetter] at h1 h2 <;> simp [Say.outside, Say.kids]
theorem cl_loutside (D : Df K mg "_law_outside" "_law_outside" "_law_outside" s_law_outside ["_law_saying"]) (T : Tx mg) : ∀ n : Nat, Cl P w K mg base CX0 (n + 1) "_law_outside" (spOutside n)
  | 0 => D.no fun vs H Q E h => by
    obtain ⟨v, s, _, _, h, _⟩ := h
    omega
  | n + 1 => by
    have ih := cl_loutside D T n
    refine D.ok c_law_outside (fun vs H Q E h => ?_) fun f cdv A outer s H vs Q E hr h => ?_
    · obtain ⟨v, s, rfl, _⟩ := h
      rfl
    obtain ⟨v, x, rfl, hx, hh, k⟩ := h
    refine ⟨_, pss_cons (ps_if (pt_cmpR op_eq (pe_ix ix_tup (pv 0) pe_int (fun _ _ => rfl)) pe_str (nomark _)) (pss_one (ps_ret pe_bl)) pss_nil)
      (pss_cons (ps_if (pt_cmpR op_eq (pe_ix ix_tup (pv 0) pe_int (fun _ _ => rfl)) pe_str (nomark _)) (pss_one (ps_ret (pe_cmpR op_eq (pe_ix ix_tup (pv 0) pe_int (fun _ _ => rfl)) pe_str (nomark _)))) pss_nil)
      (pss_one (ps_ret (pe_callB (cr_any rfl) rfl T.any (by decide +kernel)
      (pa_cons (pe_lc (own := [("_law_part", 1)]) (g := gName 1) rfl c_law_outside.nd (pi_tup (pe_slice sl_tup (pv 0) (po_some pe_int) po_none)) (blkOk_by (own := [("_law_part", 1)]) (N := ["_law_saying", "_law_part"]) (sc := defScope s_law_outside) (by decide +kernel))
        (fun _ _ _ _ _ => pg_name (i := 1) c_law_outside.nd rfl (Or.inl rfl)) (fun _ _ _ _ _ => pts_nil) (fun _ _ _ _ _ => pe_c0 ih hr (by omega) (pa_cons (pv 1) pa_nil))) pa_nil))))), ?_⟩
    refine q_is rfl hx (ite2 (fun c1 => ?_) fun c1 => ?_)
    · have e := word_shown.mp (of_decide_eq_true c1)
      cases x <;> simp [Say.isShown] at e
      exact k H (Same.refl _)
    refine q_is rfl hx (ite2 (fun c2 => ?_) fun c2 => ?_)
    · have e := word_letter.mp (of_decide_eq_true c2)
      cases x <;> simp [Say.isLetter] at e
      rename_i l
      obtain ⟨a, rfl, ha⟩ := id hx
      refine q_ix rfl ha at1 ⟨rfl, ?_⟩
      have e3 : decide (V.str l.str = V.str "p") = decide (l = .p) := by cases l <;> decide +kernel
      rw [e3]
      exact k H (Same.refl _)
    obtain ⟨a, r, rfl, ha, hr2⟩ := hx.tup
    have hu : SaysAt H x.kids r := by cases x <;> first | exact hr2 | exact absurd (decide_eq_true rfl) c2
    refine ⟨_, rfl, _, rfl, a, _, rfl, SqT.of ha, not_whole, fun q hq => ?_⟩
    rw [cut_rest]
    have g1 := same_new hq (.tup r)
    refine ⟨q, rfl, ⟨_, SqT.of upd_same⟩, fun D nD => ?_⟩
    have hlen := Paired.len hu
    refine lc_onT (as := x.kids) (fun _ => true) (fun (t : Say) y _ => y = .bl t.outside) (SqT.of upd_same) hlen (by have := kids_len x; omega) nD (fun _ _ _ _ _ _ _ h => h) (fun j t v H2 acc C C' ht hv s1 hD hC _ => ?_) fun ys H2 s1 hD hy => ?_
    · refine ⟨rfl, q_yes _ _ ?_⟩
      have tm := List.mem_of_getElem? ht
      have := kid_ht tm
      exact ⟨_, rfl, v, t, rfl, (paired_get hu j t v ht hv).mono (g1.trans s1), by omega, fun H3 g3 => hC rfl _ _ g3 rfl⟩
    · rw [filter_true] at hy
      have e := paired_eq hy
      refine ⟨D, x.kids.map Say.outside, rfl, ?_, ?_⟩
      · rw [List.map_map]; exact SqL.of (by rw [hD, e]; rfl)
      · rw [any_map, ← outside_kids]
        · exact k H2 (g1.trans s1)
        · cases h : x.isShown with
          | false => rfl
          | true => exact absurd (decide_eq_true (word_shown.mpr h)) c1
        · cases h : x.isLetter with
          | false => rfl
          | true => exact absurd (decide_eq_true (word_letter.mpr h)) c2
end
end SD
/-! # Exceptions that are kept -/
namespace SD
open PySem PySem.Spec PyProof.Rows L2
/-- at a: an exception of the class cls, its dict d -/
def XO (cls : Value) (d : Option Addr) (a : Addr) : HO := .ext fun h => ∃ (oe : Obj) (vs : Array Value), h.get? a = some oe ∧ Zc cls d oe ∧ oe.data = .fields vs
theorem xo_ok {P : Program} {w : World} {H : Hp} {h : Heap} {a : Addr} {cls : Value} {d : Option Addr} {oe : Obj} {vs : Array Value} (e : h.get? a = some oe) (z : Zc cls d oe) (hd : oe.data = .fields vs) : ObjOk P w H h a (XO cls d a) :=
  ⟨⟨oe, vs, e, z, hd⟩, ⟨oe, e⟩, fun _ _ ⟨o, v, q, r⟩ k => ⟨o, v, k o q, r⟩⟩
theorem xo_at {P : Program} {w : World} {H : Hp} {h : Heap} {a : Addr} {cls : Value} {d : Option Addr} (ok : HOk P w H h) (e : H a = some (XO cls d a)) : ∃ (oe : Obj) (vs : Array Value), h.get? a = some oe ∧ Zc cls d oe ∧ oe.data = .fields vs := (ok a _ e).1
section
variable {X : Cx} {pins : List (Addr × Obj)} {σ : L2.St} {H : Hp} {s sI : Shared} {a : Addr} {o : HO}
/-- what stands at a place of this call's own is tracked from here on -/
theorem inv_track (J : Inv X pins σ H s) (n0 : X.s_0.heap.get? a = none) (na : H a = none) (nL : a ≠ X.env.locals) (nc : ∀ x c, X.env.cells.lookup x = some c → a ≠ c) (np : ∀ p ∈ X.pn ++ pins, a ≠ p.1) (new : ObjOk X.prog X.w (upd H a o) s.heap a o) : Inv X pins σ (upd H a o) s := by
  have ne : ∀ {b : Addr} {u : Obj}, X.s_0.heap.get? b = some u → b ≠ a := fun q z => by rw [z, n0] at q; cases q
  refine ⟨J.ok, J.os, J.bare, ⟨J.base.keep, J.base.slot, fun b u q n hx => by rw [upd_ne (ne q)]; exact J.base.free b u q n hx, J.base.there, fun b xs q => ?_, fun b u xs q => ?_, fun b ps q => ?_⟩, J.loc, J.cell, ?_, fun x c e => ?_, fun p hp => ?_, HOk.laidN J.hok (fun _ _ q => q) na new, J.len⟩
  · have := J.base.tups b xs q; rw [upd_ne (ne_of_none this na)]; exact this
  · have := J.base.frzs b u xs q; rw [upd_ne (ne_of_none this na)]; exact this
  · obtain ⟨m, e⟩ := J.base.tbls b ps q; exact ⟨m, by rw [upd_ne (ne_of_none e na)]; exact e⟩
  · rw [upd_ne (Ne.symm nL)]; exact J.free
  · rw [upd_ne (Ne.symm (nc x c e))]; exact J.freeC x c e
  · obtain ⟨e, n, r⟩ := J.pin p hp
    exact ⟨e, by rw [upd_ne (Ne.symm (np p hp))]; exact n, r⟩
theorem inv_suite (I : Inv X pins σ H s) {a : Addr} : Inv (X.suite a (X.pn ++ pins)) [] σ H s :=
  ⟨I.ok.suite _ _, I.os, I.bare, I.base, I.loc, I.cell, I.free, I.freeC, fun p hp => I.pin p (by rw [List.append_nil] at hp; exact hp), I.hok, I.len⟩
theorem inv_unsuite {a : Addr} {pn' : List (Addr × Obj)} (I : Inv (X.suite a (X.pn ++ pins)) pn' σ H s) (ok : X.Ok) : Inv X pins σ H s :=
  ⟨ok, I.os, I.bare, I.base, I.loc, I.cell, I.free, I.freeC, fun p hp => I.pin p (List.mem_append_left _ hp), I.hok, I.len⟩
end
/-- what the clause 'except x as n' wishes of an exception that is kept: slot i is n's -/
def wKeep (K : PySem.W.Frag) (c : Value) (i : Nat) (ts : TS) (Wout : WX) (D : Ends) : WX := fun cls d σ H =>
  ∃ b, PySem.W.exmOne K cls c = some b ∧ (b = true → ∀ a, H a = none → ts { nx := fun σ' H' => D.nx (σ'.set i none) H', rt := D.rt, bk := fun σ' H' => D.bk (σ'.set i none) H', ct := fun σ' H' => D.ct (σ'.set i none) H' } (σ.set i (some (.ref a))) (upd H a (XO cls d a))) ∧
    (b = false → Wout cls d σ H)
section
variable {X : Cx} {x n : Str} {c : Value} {i : Nat} {body suite : List Stmt} {b₀ : Stmt} {np pos pos' : Pos} {tb : WX → TS} {ts : TS} {Wout : WX}
theorem ps_try_keep (hs : X.stack = X.env :: X.outer) (hf : X.env.frame = some X.env.locals) (hN : X.N.Nodup) (hi : X.N[i]? = some n) (hln : X.env.kindOf n = some .local) (hc : Names X x c) (tk : Takes X Wout) (hex : X.ex = [])
    (hb : ∀ (W : WX) (pn : List (Addr × Obj)) (xe : Value → Shared → Prop), Takes (X.tr pn xe) W → PassesOwn (model X.prog X.w) X.A X.env xe → PSs (X.tr pn xe) body (tb W))
    (hsu : ∀ (a : Addr) (pn : List (Addr × Obj)), PSs (X.suite a pn) (b₀ :: suite) ts) :
    PS X (.Try body [.ExceptHandler (some (.Name x np)) (some n) (b₀ :: suite) pos'] [] [] pos) (fun D σ H => tb (wKeep X.K c i ts Wout D) D σ H) := by
  refine ⟨fun pins s σ H D I h => ?_⟩
  have ok := I.ok
  have hfr : X.A.frames = some (X.env :: X.outer) := by rw [ok.frames, hs]
  have hloc : Loc X.env.scope n := .inl hln
  refine wpAny_Try_except ?_
  refine wpAny_mono ((hb (wKeep X.K c i ts Wout D) (X.pn ++ pins) (fun e s₁ => wpAny (model X.prog X.w) X.A (noteFrame e X.env) (fun _ s₂ => wpAny (model X.prog X.w) X.A (setFlight e none) (fun _ s₃ =>
    wpAny (model X.prog X.w) X.A (handleBy e X.env [.ExceptHandler (some (.Name x np)) (some n) (b₀ :: suite) pos']) (SP X pins D) X.xe s₃) X.xe s₂) X.xe s₁) (fun u s' xx => ?_) PassesOwn.looking).run [] s σ H D (I.toTry _) h) (fun f s1 hsp => ?_) (fun e s1 he => he)
  · obtain ⟨a, B, sI, pins', σ', H', cls, d, rfl, J', nb, up, sky, na, os, ag, b, hb1, hyes, hno⟩ := xx
    have J : Inv X pins σ' H' sI := J'.ofTry ok
    have sky' : Sky B (X.env :: X.outer) a (Zc cls d) X.env.locals s'.heap := by rw [← hs]; exact sky
    show wpAny (model X.prog X.w) X.A (noteFrame (.ref a) X.env) _ _ _
    refine Sky.land Zc.steady hfr hf sky' fun h3 fl3 up3 => ?_
    have J3 : Inv X pins σ' H' { s' with heap := h3 } := J.landed nb fl3.1 (up.trans up3) os ag
    obtain ⟨oe3, vs3, he3, hz3, hd3⟩ := fl3.there
    have nfr : a ∉ frs (X.env :: X.outer) := fun hm => by
      obtain ⟨_, o', e', hnf⟩ := fl3.2.2.1.mem hm
      rw [he3] at e'; cases e'
      exact hnf _ hd3
    have nL : a ≠ X.env.locals := fun z => nfr (List.mem_filterMap.mpr ⟨X.env, List.mem_cons_self, by rw [hf, z]⟩)
    have nF : a ∉ X.fs := fun hm => by
      obtain ⟨e, he, q⟩ := List.mem_filterMap.mp hm
      exact nfr (List.mem_filterMap.mpr ⟨e, List.mem_cons_of_mem _ he, q⟩)
    have nI : sI.heap.get? a = none := by
      cases q : sI.heap.get? a with
      | none => rfl
      | some o =>
        have z := nb a o q (by rw [hs]; exact nfr)
        rw [fl3.2.1] at z; cases z
    have n0 : X.s_0.heap.get? a = none := by
      cases q : X.s_0.heap.get? a with
      | none => rfl
      | some o =>
        obtain ⟨o', z⟩ := J.base.there a o q (by rw [hex]; simp)
        rw [nI] at z; cases z
    have np3 : ∀ p ∈ X.pn ++ pins, a ≠ p.1 := fun p hp z => by
      have := (J.pin p hp).1
      rw [← z, nI] at this; cases this
    have nc3 : ∀ y c, X.env.cells.lookup y = some c → a ≠ c := fun y c hy z => by
      obtain ⟨v, hv⟩ := J.cell y c hy
      rw [← z] at hv
      have := hv
      unfold Heap.IsCell at this
      simp [nI] at this
    refine wpAny_handleBy_cons (codeAny_handlers_test ?_) (by intro q; cases q)
    have LT : PySem.W.Looks (model X.prog X.w) h3 (typeOf (.ref a)) cls := fun A Q E s k q => wpAny_typeOf_ref (k _ _ he3) (by rw [hz3.1]; exact q)
    have LM := PySem.W.exm_one (M := model X.prog X.w) (J3.kIn) LT hb1
    have S3 := J3.suite he3 hd3 na nL nF
    have test : ∀ {Q : Value → Shared → Prop} {E : Value → Shared → Prop}, Q c { s' with heap := h3 } → wpAny (model X.prog X.w) (X.A.mark (some (.ref a))) (eval (.Name x np) X.env) Q E { s' with heap := h3 } := fun {Q E} q => by
      obtain ⟨hg, hdbg, hm | ⟨hm, hv, hnn⟩⟩ := hc
      · exact ld_glob (X := X.suite a ((a, oe3) :: (X.pn ++ pins))) S3 hg hm q hdbg
      · exact ld_blt (X := X.suite a ((a, oe3) :: (X.pn ++ pins))) S3 hg hm hv q hnn hdbg
    refine test (LM.here ?_)
    cases b with
    | true =>
      refine codeAny_handlers_suite_as ?_
      refine HandSPX.lands_againZ fl3 fun h4 fl4 up4 => ?_
      have J4 : Inv X pins σ' H' { s' with heap := h4 } := J.landed nb fl4.1 ((up.trans up3).trans up4) os ag
      obtain ⟨oe4, vs4, he4, hz4, hd4⟩ := fl4.there
      have K4 : Inv X pins σ' (upd H' a (XO cls d a)) { s' with heap := h4 } := inv_track J4 n0 na nL nc3 np3 (xo_ok he4 hz4 hd4)
      have S4 := inv_suite K4 (a := a)
      refine store_ok (X := X.suite a (X.pn ++ pins)) (v := .ref a) S4 hN hi hloc rfl (fun s5 S5 => ?_) (.inr hln)
      refine wpAny_mono ((hsu a (X.pn ++ pins)).run [] s5 _ _ _ S5 (hyes rfl a na)) (fun f s6 hsp => ?_) (fun _ _ z => False.elim z)
      have end_ : ∀ {σ6 : L2.St} {H6 : Hp} {Q : Shared → Prop}, Inv (X.suite a (X.pn ++ pins)) [] σ6 H6 s6 → (∀ s7, Inv X pins (σ6.set i none) H6 s7 → Q s7) →
          wpAny (model X.prog X.w) X.A (do bindName X.env n .none; unbindBehindTheSuite X.env n pos') (fun _ s7 => Q s7) X.xe s6 := fun {σ6 H6 Q} S6 hq => gone_ok (inv_unsuite S6 ok) hN hi hln hq
      cases f with
      | next =>
        obtain ⟨σ6, H6, S6, q6⟩ := hsp
        exact end_ S6 fun s7 J7 => ⟨_, _, J7, q6⟩
      | brk =>
        obtain ⟨σ6, H6, S6, q6⟩ := hsp
        exact end_ S6 fun s7 J7 => ⟨_, _, J7, q6⟩
      | cont =>
        obtain ⟨σ6, H6, S6, q6⟩ := hsp
        exact end_ S6 fun s7 J7 => ⟨_, _, J7, q6⟩
      | ret u =>
        obtain ⟨v6, σ6, H6, S6, r6, q6⟩ := hsp
        exact end_ S6 fun s7 J7 => ⟨_, _, _, J7, r6, q6⟩
    | false =>
      show wpAny _ X.A (handleBy (.ref a) X.env []) _ _ _
      refine wpAny_handleBy_nil ?_
      obtain ⟨k1, k2, k3, oe, vs, T, oT, ts', he, hz, hd, h1, hr⟩ := id fl3
      unfold PySem.passOn
      refine wpAny_bind (wpAny_field he hd h1 ?_)
      rw [if_neg (show ¬ ((Value.ref T == Value.none) = true) from by simp)]
      have fin : wpAny (model X.prog X.w) X.A (setFlight (.ref a) X.env.frame) (fun _ s4 => wpAny (model X.prog X.w) X.A (throw (.ref a) : Sem Flow) (SP X pins D) X.xe s4) X.xe { s' with heap := h3 } := by
        rw [hf]
        refine HandSPX.setFlight_upZ fl3 fun h4 hh4 up4 => wpAny_throw (tk _ _ ?_)
        exact ⟨a, B, sI, pins, σ', H', cls, d, rfl, J, nb, (up.trans up3).trans up4, .inr (.inr (by rw [hs]; exact hh4)), na, os, ag, hno rfl⟩
      first
        | exact wpAny_bind (wpAny_pure (wpAny_bind fin))
        | exact wpAny_bind fin
  · cases f with
    | next =>
      obtain ⟨σ', H', J', q⟩ := hsp
      exact wpAny_execs_nil ⟨σ', H', J'.ofTry ok, q⟩
    | brk =>
      obtain ⟨σ', H', J', q⟩ := hsp
      exact ⟨σ', H', J'.ofTry ok, q⟩
    | cont =>
      obtain ⟨σ', H', J', q⟩ := hsp
      exact ⟨σ', H', J'.ofTry ok, q⟩
    | ret u =>
      obtain ⟨v, σ', H', J', r, q⟩ := hsp
      exact ⟨v, σ', H', J'.ofTry ok, r, q⟩
end
/-! ### isinstance of a kept exception, its field -/
section
open PySem.W PySem.Calls
variable {prog : Program} {w : World} {A : Around} {E : Value → Shared → Prop} {s : Shared} {K : Frag} {x D : Addr} {ox : Obj} {od : Option Obj}
theorem findObj_dat {C : Addr} {name : Str} {a g : Value} (hc : (clsIn K C).isSome = true) (ha : findIn K (.ref C) name = some (some a)) (hg : specialIn K a "__get__" = some (some g)) (ht : takesIn K a = some true) : findObj K C od name = some (.bind g a) := by
  cases od with
  | none => exact findObj_dataN hc ha hg ht
  | some o => exact findObj_data hc ha hg ht
theorem class_exc {Q : Option Value → Shared → Prop} (T : L2.ExcC K D) (X : K.In s.heap) (I : InstAt s.heap x ox D od) (h : Q (some (.ref D)) { s with toks := s.toks + 1 }) : wpAny (model prog w) A (getAttr? (.ref x) "__class__") Q E s := by
  have hf : findObj K D od "__class__" = some (.bind (.builtin "getset_descriptor.__get__") (.builtin "object.__class__")) := findObj_dat (by obtain ⟨cd, hc, _⟩ := any_some T.hd; rw [hc]; rfl) T.ha T.hn T.ht
  obtain ⟨hp, g, d, t, os⟩ := s
  have L0 := I.type (M := model prog w)
  have L1 := looks_findIn (M := model prog w) X T.hg
  have L2 := looks_findIn (M := model prog w) X T.hk
  have L3 := looks_find (M := model prog w) X I hf
  have sub : Looks (model prog w) hp (isInstance (.ref x) (.type "BaseException")) true := L0.andThen (looks_subIn X T.hs)
  have hx0 : (false && onTheHeap (Value.builtin "BaseException.__getattribute__")) = false := rfl
  have hx2 : (Value.builtin "BaseException.__getattribute__" == Value.builtin "object.__getattribute__") = false := by decide +kernel
  have hx1 : (onTheHeap (Value.ref D) && Value.builtin "BaseException.__getattribute__" == Value.builtin "object.__getattribute__") = false := by rw [hx2]; rfl
  unfold getAttr? getAttrBy? getAttrBy
  refine wpAny_bind (wpAny_mkText (wpAny_bind (wpAny_attempt (wpAny_holding (wpAny_bind (L0.at (wpAny_bind (L1.at ?_))))))))
  show wpAny _ _ (if (onTheHeap (Value.ref D) && Value.builtin "BaseException.__getattribute__" == Value.builtin "object.__getattribute__") = true then _ else _) _ _ _
  rw [hx1, if_neg Bool.false_ne_true]
  unfold getAttrByItsOwn hookBefore
  refine wpAny_bind ?_
  rw [if_pos (show onTheHeap (Value.ref D) = true from rfl)]
  refine L2.at ?_
  refine wpAny_bind (wpAny_attempt (wpAny_holding ?_))
  unfold callGetattribute
  rw [hx0, if_neg Bool.false_ne_true]
  unfold boundAndCalled
  rw [PySem.F.excAttr_ValueError.ga.bind (.ref x)]
  refine wpAny_bind (wpAny_pure ?_)
  show wpAny _ _ (call (.builtin "BaseException.__getattribute__") [.ref x, .str "__class__" t]) _ _ _
  refine wpAny_call (codeAny_call_builtin PySem.F.excAttr_ValueError.ga.plain PySem.F.entry_bexc_ga ?_)
  refine @check_slot (model prog w) _ _ ⟨hp, g, d, t + 1, os⟩ "BaseException.__getattribute__" "BaseException" "__getattribute__" (.ref x) [.str "__class__" t] [] _ (by decide +kernel) (by decide +kernel) sub (PySem.F.args_bexc_ga (.ref x) (.str "__class__" t)) ?_
  unfold Builtin.«object.__getattribute__»
  refine wpAny_bind (wpAny_of_eq (a := ((Value.ref x : Value), [Value.str "__class__" t])) (by first | rfl | (simp only [slotArgs]; rfl)) ?_)
  refine wpAny_bind (wpAny_pure (wpAny_bind (L0.at (wpAny_bind (L3.at ?_)))))
  show wpAny _ _ (holding [Value.builtin "object.__class__"] (call (.builtin "getset_descriptor.__get__") [.builtin "object.__class__", .ref x, .ref D]) >>= ret) _ _ _
  refine wpAny_bind (wpAny_holding (wpAny_call (class_get (s := ⟨hp, g, d, t + 1, os⟩) (ox := ox) (od := od) X I T.hm ?_)))
  refine wpAny_pure ?_
  show wpAny _ _ (handedOut (.ref D)) _ _ _
  rw [handedOut_of (v := .ref D) rfl]
  first
    | exact wpAny_pure (wpAny_pure h)
    | exact wpAny_pure h
    | exact wpAny_pure (wpAny_bind (wpAny_pure (wpAny_pure h)))
theorem is_type {M : Model} {h : Heap} (hd : hasDictIn K D = true) (X : K.In h) : Looks M h (isType (.ref D)) true := by
  intro A Q E s k q
  obtain ⟨cdD, hcD, _⟩ := any_some hd
  unfold clsIn at hcD
  split at hcD
  · rename_i c' d' cd' sl' ho
    unfold isType loadHead
    exact wpAny_bind (wpAny_loadPart (k _ _ (X _ _ ho)) (wpAny_pure q))
  · cases hcD
theorem kit_exc (T : L2.ExcC K D) : KitX K (.ref x) (.ref D) (fun h => InstAt h x ox D od) :=
  have Z := handS_kitx_exc (x := x) (ox := ox) T.hg T.hk T.hs T.hd T.ha T.hn T.ht T.hm
  ⟨fun _ _ _ I => I.type, fun M h k _ => is_type T.hd k, Z.ne, fun k I q => class_exc T k I q⟩
end
section
variable {X : Cx}
/-- where the exception's dict stands -/
theorem dict_at {P : Program} {w : World} {K : PySem.W.Frag} {H : Hp} {h : Heap} {a D : Addr} {oe : Obj} {vs : Array Value} {d : Option Addr} (ha : h.get? a = some oe) (hz : Zc (.ref D) d oe) (hd : oe.data = .fields vs)
    (ok : HOk P w H h) (hx : ∀ dd, d = some dd → ∃ fs, H dd = some (.xd fs)) : ∃ od, PySem.W.InstAt h a oe D od := by
  cases d with
  | none => exact ⟨none, ha, hz.1, by unfold PySem.W.notCls; rw [hd] <;> rfl, by rw [hz.2]; exact trivial⟩
  | some dd =>
    obtain ⟨fs, e⟩ := hx dd rfl
    obtain ⟨mA, hns, hr⟩ : ∃ mA, h.Ns1 dd mA ∧ ∀ f, RelO (fs.lookup f) (mA f) := ok dd _ e
    obtain ⟨od, ho, _⟩ := lookIn_ns hns
    exact ⟨some od, ha, hz.1, by unfold PySem.W.notCls; rw [hd] <;> rfl, by rw [hz.2]; exact ho⟩
/-- isinstance(e, c), e a kept exception -/
def rIsX (K : PySem.W.Frag) : List V → Hp → VK → Prop := fun xs H Q => ∃ (a D : Addr) (d : Option Addr) (c : V) (cv : Value) (b : Bool), xs = [.ref a, c] ∧ H a = some (XO (.ref D) d a) ∧ (∀ dd, d = some dd → ∃ fs, H dd = some (.xd fs)) ∧ ExcC K D ∧
  (∀ u, RelV c u → u = cv) ∧ PySem.W.kitOne K (.ref D) cv = some b ∧ Q (.bl b) H
theorem cr_isX : CallR X (.builtin "isinstance") (rIsX X.K) := by
  intro pins s σ H xs us Q I r h
  obtain ⟨a, D, d, c, cv, b, rfl, ha, hx, C, hcv, e, q⟩ := h
  cases r with
  | cons rx rr =>
    cases rr with
    | cons rt rr =>
      cases rr
      cases rx
      have ec := hcv _ rt
      subst ec
      obtain ⟨oe, vs, hget, hz, hv⟩ := xo_at I.hok ha
      obtain ⟨od, J⟩ := dict_at (K := X.K) hget hz hv I.hok hx
      exact PySem.W.kia_one (kit_exc C) I.kIn J e (fun z => nomatch z) fun tk => ⟨.bl b, H, I.kept (t' := tk) fun _ _ z => z, rfl, q⟩
/-- e.f, e a kept exception -/
def tXO (K : PySem.W.Frag) (f : Str) (te : TE) : TE := fun σ H Q => te σ H fun x H1 => ∃ (a C dd : Addr) (fs : List (Str × V)) (v : V), x = .ref a ∧ H1 a = some (XO (.ref C) (some dd) a) ∧ XfC K C ∧ PySem.W.findIn K (.ref C) f = some none ∧ H1 dd = some (.xd fs) ∧ fs.lookup f = some v ∧ Q v H1
theorem pe_xo {e : Expr} {te : TE} {pos : Pos} {n : Str} (he : PE X e te) (hb : attributeBase e n X.env (eval e X.env) = eval e X.env := by rfl) : PE X (.Attribute e n pos) (tXO X.K n te) := by
  refine ⟨fun pins s σ H Q I h => ?_⟩
  refine attr_of hb (thn (he.run pins s σ H _ I h) fun u s1 hh => ?_)
  obtain ⟨x, H1, I1, rx, a, C, dd, fs, v, rfl, ea, T, hno, ed, l, q⟩ := hh
  obtain rfl : u = Value.ref a := rx
  obtain ⟨oe, vs, ha, hz, hd⟩ := xo_at I1.hok ea
  have hx : ObjOk X.prog X.w H1 s1.heap dd (.xd fs) := I1.hok dd _ ed
  obtain ⟨mA, hns, hr⟩ := hx
  obtain ⟨od, ho, hl⟩ := lookIn_ns hns
  obtain ⟨u, hu, ru⟩ := RelO.some_of (v := v) (o := mA n) (by rw [← l]; exact hr n)
  have J : PySem.W.InstAt s1.heap a oe C (some od) := ⟨ha, hz.1, by unfold PySem.W.notCls; rw [hd] <;> rfl, by rw [hz.2]; exact ho⟩
  exact HandSPX.exc_get I1.kIn J T.ga T.gg T.exC (PySem.W.findObj_own T.hdC hno rfl (by rw [hl, hu])) (handed_of ru) ⟨v, H1, I1.tok _, ru, q⟩
end
end SD
/-! # Exceptions that are raised -/
namespace SD
open PySem PySem.Spec PyProof.Rows L2
/-- what a line is refused by -/
inductive Bad | nothing | saying (n : Nat) | letter (c : Ltr) | many | outside
abbrev xc (K : PySem.W.Frag) (x : Str) : Value := .ref (He.ga K x)
/-- an exception (its class, its dict) of that kind -/
def ExAt (K : PySem.W.Frag) (H : Hp) (cls : Value) (d : Option Addr) : Bad → Prop
  | .nothing => cls = xc K "Nothing" ∧ d = none
  | .saying n => cls = xc K "NoSaying" ∧ ∃ dd, d = some dd ∧ H dd = some (.xd [("place", .int n)])
  | .letter c => cls = xc K "HasLetter" ∧ ∃ dd, d = some dd ∧ H dd = some (.xd [("letter", .str c.str)])
  | .many => cls = xc K "TooMany" ∧ d = none
  | .outside => cls = xc K "Outside" ∧ d = none
/-- the call is refused so, with nothing old changed -/
def Rz (K : PySem.W.Frag) (H : Hp) (E : XK) (b : Bad) : Prop := ∀ cls d H', Same H H' → ExAt K H' cls d b → E cls d H'
theorem Rz.mono {K : PySem.W.Frag} {H H1 : Hp} {E : XK} {b : Bad} (h : Rz K H E b) (g : Same H H1) : Rz K H1 E b := fun cls d H' g' e => h cls d H' (g.trans g') e
/-- an own exception class without own __init__ -/
structure Xc (K : PySem.W.Frag) (mg : Str → Option Value) (x : Str) : Prop where
  q : PySem.W.excIn K (He.ga K x) He.veBase "ValueError.__new__" = true
  at_ : mg x = some (xc K x)
  kp : PySem.W.keepIn K (xc K x) = true
  sub : PySem.W.subIn K (xc K x) (.type "BaseException") = some true
  ty : PySem.W.typeIn K (xc K x) = some (.type "type")
/-- .. with one: it keeps the field f -/
structure Xi (P : Program) (w : World) (K : PySem.W.Frag) (mg : Str → Option Value) (base : Heap) (x f : Str) : Prop where
  o : OexC K (He.ga K x)
  at_ : mg x = some (xc K x)
  no : PySem.W.findIn K (xc K x) f = some none
  ini : ∃ (fI : Addr) (fd : FuncData) (ps : List Str), PySem.W.findIn K (xc K x) "__init__" = some (some (.ref fI)) ∧ PySem.W.typeIn K (.ref fI) = some (.type "function") ∧ Binds K fd ps [] ∧
    FnOk P w K mg base CX0 1 fI fd ps fun vs H Q E => ∃ (a : Addr) (y : V), vs = [.ref a, y] ∧ H a = some (exo a (He.ga K x) none) ∧ ∀ dx, H dx = none → dx ≠ a → Q .non (upd (upd H dx (exd dx [(f, y)])) a (exo a (He.ga K x) (some dx)))
section
variable {X : Cx} {p p1 p2 pos : Pos} {x f : Str} {e : Expr} {es : List Expr} {ta : TA}
/-- X() -/
theorem pmk0 (T : Xc X.K X.mg x) (hg : Gl X x := by rfl) (hdb : (x == ("__debug__" : Str)) = false := by decide) : PMk X (.Call (.Name x p) [] [] pos) (fun _ H Q => Q (xc X.K x) none H) := by
  intro pins s σ H Q I h
  refine wpAny_Call_Name_kw (ld_glob I hg T.at_ ?_ hdb)
  refine PySem.W.callWith_K0 I.kIn T.kp ?_
  obtain ⟨bm, N, nm, qn, bs, hdct, sn, sub, ab, col, dd, k0, k1, k2, k3, k5, mN, hC, hN, hni, T2⟩ := exc_obj I.kIn T.q
  refine wpAny_call_exc_subT F.excBase_ValueError T2 hC hN hni (fun h' e hm => ?_) (by show 0 ≤ sizeLine; omega)
  exact mk_of I hm (raises_own T.sub T.ty) h (I.hok.gone hm.new)
/-- the reading of arguments, weakened -/
def tWk (ta : TA) : TA := fun σ H Q => ∃ Q0, ta σ H Q0 ∧ ∀ vs H1, Q0 vs H1 → Q vs H1
theorem pa_wk (ha : PA X es ta) : PA X es (tWk ta) := ⟨fun pos pins s σ H Q I ⟨Q0, h, i⟩ => thn (ha.run pos pins s σ H Q0 I h) fun us s1 ⟨vs, H1, I1, r, q⟩ => ⟨vs, H1, I1, r, i _ _ q⟩⟩
/-- X(e), the class keeping a field -/
theorem pmk1 {k : Nat} (T : Xi X.prog X.w X.K X.mg X.base x f) (hr : Room k X.A) (hk : 2 ≤ k) (ha : PA X (e :: es) ta) (hg : Gl X x := by rfl)
    (hdb : (x == ("__debug__" : Str)) = false := by decide) (he : starEach (e :: es) X.env = (false, eval e X.env) :: starEach es X.env := by rfl) (hpl : (backTo pos (starEach es X.env)).any (·.1) = false := by rfl) :
    PMk X (.Call (.Name x p) (e :: es) [] pos) (fun σ H Q => ta σ H fun vs H1 => ∃ y, vs = [y] ∧ ∀ d H2, Same H1 H2 → H2 d = some (.xd [(f, y)]) → Q (xc X.K x) (some d) H2) := by
  obtain ⟨fI, fd, ps, i1, i2, b, F⟩ := T.ini
  have q := pmk_oex (p := p) (pos := pos) T.o i1 i2 F (hr.mono hk) b .nil pass0 hg T.at_ (pa_wk ha) hdb he hpl
  intro pins s σ H Q I h
  refine q pins s σ H Q I ⟨_, h, ?_⟩
  rintro vs H1 ⟨y, rfl, k⟩
  refine ⟨by simp, fun a na => ⟨a, y, rfl, upd_same, fun dx nd ne => ⟨rfl, dx, _, upd_same, by rw [upd_ne ne]; exact upd_same, ?_, ?_⟩⟩⟩
  · rw [upd_ne ne] at nd; exact nd
  · rw [upd_ne ne] at nd
    refine k dx _ (fun b o hb => ?_) upd_same
    have nb : b ≠ a := ne_of_none hb na
    have nb2 : b ≠ dx := ne_of_none hb nd
    rw [upd_ne nb2, del_ne nb, upd_ne nb, upd_ne nb2, upd_ne nb]
    exact hb
/-- C.__init__(self, ..), C's __init__ being ValueError's -/
theorem pe_supI {C : Addr} {pl : Sem Bool} (hm : X.mg x = some (.ref C)) (r : ClX.CRead X.K C (.type "type")) (v : PySem.W.findCls X.K (.ref C) (.type "type") "__init__" = some (.val (.builtin "ValueError.__init__"))) (ha : PA X (e :: es) ta) (hg : Gl X x := by rfl)
    (hdb : (x == ("__debug__" : Str)) = false := by decide)
    (hc : eval (.Call (.Attribute (.Name x p1) "__init__" p2) (e :: es) [] pos) X.env = (do
      let ov ← eval (.Name x p1) X.env
      standAt p2.atName
      let (f, first) ← holding [ov] (getMethod ov "__init__" pl)
      callWith pos f first (backTo pos (starEach (e :: es) X.env)) (backToKw pos (keywordEach [] X.env))) := by rfl)
    (he : starEach (e :: es) X.env = (false, eval e X.env) :: starEach es X.env := by rfl) (hpl : (backTo pos (starEach es X.env)).any (·.1) = false := by rfl) :
    PE X (.Call (.Attribute (.Name x p1) "__init__" p2) (e :: es) [] pos) (tVeI X.K ta) := by
  refine ⟨fun pins s σ H Q I h => ?_⟩
  refine PySem.W.methodCall_KW (ld_glob I hg hm ?_ hdb) hc
  refine PySem.W.method_cls I.kIn r.ga (PySem.W.cls_value I.kIn r.rd v (by first | rfl | decide +kernel) ?_)
  show wpAny _ _ (callWith pos (Value.builtin "ValueError.__init__") [] (backTo pos (starEach (e :: es) X.env)) []) _ _ _
  refine PyProof.Rows.callWith_method1 (thn (ha.run pos pins _ σ H _ (I.tok _) h) fun us s1 ⟨vs, H1, I1, r1, a, C, ws, ev, hl, T, ea, q⟩ => ?_) he hpl
  subst ev
  cases r1 with
  | @cons _ u0 _ ur ra rw' =>
    obtain rfl : u0 = Value.ref a := ra
    have hlen : ur.length ≤ sizeLine := by
      rw [← Paired.length rw', sizeLine_eq]
      omega
    exact oinit_ok T I1 ea hlen fun s' J => ⟨.non, H1, J, rfl, q⟩
/-- C.__init__(..), a def of the text -/
def tCtI (sp : Sp) (E : XK) (ta : TA) : TE := fun σ H Q => ta σ H fun vs H1 => sp vs H1 Q E
theorem pe_ctI {C fT : Addr} {CX : CXT} {k : Nat} {fd : FuncData} {ps : List Str} {sp : Sp} {E : XK} {pl : Sem Bool} (hm : X.mg x = some (.ref C)) (r : ClX.CRead X.K C (.type "type")) (v : PySem.W.findCls X.K (.ref C) (.type "type") "__init__" = some (.val (.ref fT)))
    (hk : PySem.W.keepIn X.K (.ref fT) = true) (F : FnOk X.prog X.w X.K X.mg X.base CX k fT fd ps sp) (hr : Room k X.A) (hb : Binds X.K fd ps []) (hx : Passes CX X E) (ha : PA X (e :: es) ta) (hg : Gl X x := by rfl)
    (hdb : (x == ("__debug__" : Str)) = false := by decide)
    (hc : eval (.Call (.Attribute (.Name x p1) "__init__" p2) (e :: es) [] pos) X.env = (do
      let ov ← eval (.Name x p1) X.env
      standAt p2.atName
      let (f, first) ← holding [ov] (getMethod ov "__init__" pl)
      callWith pos f first (backTo pos (starEach (e :: es) X.env)) (backToKw pos (keywordEach [] X.env))) := by rfl)
    (he : starEach (e :: es) X.env = (false, eval e X.env) :: starEach es X.env := by rfl) (hpl : (backTo pos (starEach es X.env)).any (·.1) = false := by rfl) :
    PE X (.Call (.Attribute (.Name x p1) "__init__" p2) (e :: es) [] pos) (tCtI sp E ta) := by
  refine ⟨fun pins s σ H Q I h => ?_⟩
  refine PySem.W.methodCall_KW (ld_glob I hg hm ?_ hdb) hc
  refine PySem.W.method_cls I.kIn r.ga (PySem.W.cls_value I.kIn r.rd v (by first | rfl | decide +kernel) ?_)
  refine PySem.W.callWith_K (first := []) (h₀ := X.base) I.ok.mod.kin hk (thn (ha.run pos pins _ σ H _ (I.tok _) h) fun us s2 ⟨vs, H2, I2, r2, q2⟩ => ⟨I2.kIn, ?_⟩) he hpl
  exact run_fn (us := us) (vs := vs) F hr hb .nil hx I2 r2 (by rw [List.append_nil]; exact q2)
/-- o.m(e, ..), what is wanted of an exception leaning on the slots -/
def tMethS (C : Addr) (m : Str) (sp : Sp) (E : L2.St → XK) (to : TE) (t : TA) : TE := fun σ H Q => to σ H fun x H1 => ∃ a dx fs, x = .ref a ∧ H1 a = some (.ins C dx fs) ∧ fs.lookup m = none ∧
  t σ H1 fun vs H2 => sp (x :: vs) H2 Q (E σ)
theorem pe_methS {CX : CXT} {k : Nat} {f C : Addr} {fd : FuncData} {ps : List Str} {sp : Sp} {E : L2.St → XK} {o : Expr} {m : Str} {apos : Pos} {to : TE} {pl : Sem Bool} (he : PE X o to) (c : Cls X.K C) (hm : Meth X.K C m f) (F : FnOk X.prog X.w X.K X.mg X.base CX k f fd ps sp) (hr : Room k X.A) (hb : Binds X.K fd ps [])
    (hx : ∀ σ, PassesAt CX X σ (E σ)) (ha : PA X (e :: es) ta)
    (hst : starEach (e :: es) X.env = (false, eval e X.env) :: starEach es X.env := by rfl) (hpl : (backTo pos (starEach es X.env)).any (·.1) = false := by rfl)
    (ht : eval (.Call (.Attribute o m apos) (e :: es) [] pos) X.env = (do
      let ov ← eval o X.env
      standAt apos.atName
      let (f, first) ← holding [ov] (getMethod ov m pl)
      callWith pos f first (backTo pos (starEach (e :: es) X.env)) (backToKw pos (keywordEach [] X.env))) := by rfl) :
    PE X (.Call (.Attribute o m apos) (e :: es) [] pos) (tMethS C m sp E to ta) := by
  refine ⟨fun pins s σ H Q I h => ?_⟩
  refine PySem.W.methodCall_KW (pl := pl) (thn (he.run pins s σ H _ I h) fun u s1 ⟨x, H1, I1, rx, a, dx, fs, ex, ea, l, q⟩ => ?_) ht
  subst ex
  obtain rfl : u = Value.ref a := rx
  refine getmeth_ok I1 ea c hm l ?_
  refine PySem.W.callWith_K (first := [.ref a]) (h₀ := X.base) I.ok.mod.kin hm.kp (thn (ha.run pos pins s1 σ H1 _ I1 q) fun us s2 ⟨vs, H2, I2, r, q2⟩ => ⟨I2.kIn, ?_⟩) hst hpl
  exact run_fnS (us := .ref a :: us) (vs := .ref a :: vs) F hr hb (hx σ) I2 (.cons rfl r) q2
end
end SD
namespace SD
open PySem PySem.Spec PyProof.Rows L2
/-- a method at f -/
structure Da (K : PySem.W.Frag) (nm qual : Str) (st : Stmt) (ps : List Str) (f : Addr) : Prop where
  ex : ∃ fd : FuncData, FunD K nm qual (defArgs st) (defBody st) (defScope st) [] [] f fd ∧ Binds K fd ps []
/-- what the def at f promises -/
structure Ca (P : Program) (w : World) (K : PySem.W.Frag) (mg : Str → Option Value) (base : Heap) (CX : CXT) (k : Nat) (f : Addr) (sp : Sp) : Prop where
  ex : ∃ (fd : FuncData) (ps : List Str), FnOk P w K mg base CX k f fd ps sp ∧ Binds K fd ps []
section
variable {P : Program} {w : World} {K : PySem.W.Frag} {mg : Str → Option Value} {base : Heap} {CX : CXT} {k : Nat} {f : Addr} {nm qual : Str} {st : Stmt} {N ps : List Str} {sp : Sp}
theorem Da.ok (D : Da K nm qual st ps f) (S : FnScope N ps (defScope st)) (len : ∀ vs H Q E, sp vs H Q E → vs.length = ps.length)
    (hbody : ∀ (cdv : Value) (A : Around) (outer : List Env) (s : Shared) (H : Hp) (vs : List V) (Q : VK) (E : XK), Room k (A.deeper (envOfC qual (defScope st) s.heap.objs.size f cdv)) → sp vs H Q E →
      ∃ t, PSs (cxOf CX0 P w K mg base N qual (defScope st) f cdv A outer s H E).nox (defBody st) t ∧ t { nx := fun _ H' => Q .non H', rt := Q } (start N vs) H) : Ca P w K mg base CX0 (k + 1) f sp := by
  obtain ⟨fd, F, b⟩ := D.ex
  refine ⟨fd, ps, F.ok S len fun cdv A outer s H vs Q E hr h => ?_, b⟩
  obtain ⟨t, h1, h2⟩ := hbody cdv A outer s H vs Q E hr h
  exact ⟨t, PSs.nox h1, h2⟩
theorem Da.okX (D : Da K nm qual st ps f) (S : FnScope N ps (defScope st)) (len : ∀ vs H Q E, sp vs H Q E → vs.length = ps.length)
    (hbody : ∀ (cdv : Value) (A : Around) (outer : List Env) (s : Shared) (H : Hp) (vs : List V) (Q : VK) (E : XK), Room k (A.deeper (envOfC qual (defScope st) s.heap.objs.size f cdv)) → sp vs H Q E →
      ∃ t, PSs (cxOf (L2.CX P w) P w K mg base N qual (defScope st) f cdv A outer s H E) (defBody st) t ∧ t { nx := fun _ H' => Q .non H', rt := Q } (start N vs) H) : Ca P w K mg base (L2.CX P w) (k + 1) f sp := by
  obtain ⟨fd, F, b⟩ := D.ex
  exact ⟨fd, ps, F.ok S len fun cdv A outer s H vs Q E hr h => hbody cdv A outer s H vs Q E hr h, b⟩
end
section
variable {P : Program} {w : World} {K : PySem.W.Frag} {mg : Str → Option Value} {base : Heap}
/-! # the exceptions' __init__ -/

theorem xi_NoSaying (o : OexC K (He.ga K "NoSaying")) (at_ : mg "NoSaying" = some (xc K "NoSaying")) (no : PySem.W.findIn K (xc K "NoSaying") "place" = some none) {fI : Addr} (i1 : PySem.W.findIn K (xc K "NoSaying") "__init__" = some (some (.ref fI))) (i2 : PySem.W.typeIn K (.ref fI) = some (.type "function"))
    (D : Da K "__init__" "NoSaying.__init__" s_NoSaying_init ["self", "place"] fI) (hS : mg "SayError" = some (xc K "SayError")) (rS : ClX.CRead K (He.ga K "SayError") (.type "type"))
    (vS : PySem.W.findCls K (xc K "SayError") (.type "type") "__init__" = some (.val (.builtin "ValueError.__init__"))) : Xi P w K mg base "NoSaying" "place" := by
  have c : Ca P w K mg base CX0 1 fI fun vs H Q E => ∃ (a : Addr) (y : V), vs = [.ref a, y] ∧ H a = some (exo a (He.ga K "NoSaying") none) ∧ ∀ dx, H dx = none → dx ≠ a → Q .non (upd (upd H dx (exd dx [("place", y)])) a (exo a (He.ga K "NoSaying") (some dx))) := by
    refine D.ok c_NoSaying_init (fun vs H Q E h => ?_) fun cdv A outer s H vs Q E hr h => ?_
    · obtain ⟨a, y, rfl, _⟩ := h
      rfl
    obtain ⟨a, y, rfl, ha, k⟩ := h
    refine ⟨_, pss_cons (ps_expr (pe_supI hS rS vS (pa_cons (pv 0) (pa_cons pe_str pa_nil)))) (pss_one (ps_ost (pv 0) (pv 1))), ?_⟩
    exact ⟨_, rfl, a, _, _, rfl, by simp, o, ha, _, rfl, _, rfl, a, _, rfl, o, no, .inl ⟨ha, k⟩⟩
  obtain ⟨fd, ps, F, b⟩ := c.ex
  exact ⟨o, at_, no, fI, fd, ps, i1, i2, b, F⟩

theorem xi_HasLetter (o : OexC K (He.ga K "HasLetter")) (at_ : mg "HasLetter" = some (xc K "HasLetter")) (no : PySem.W.findIn K (xc K "HasLetter") "letter" = some none) {fI : Addr} (i1 : PySem.W.findIn K (xc K "HasLetter") "__init__" = some (some (.ref fI))) (i2 : PySem.W.typeIn K (.ref fI) = some (.type "function"))
    (D : Da K "__init__" "HasLetter.__init__" s_HasLetter_init ["self", "letter"] fI) (hS : mg "SayError" = some (xc K "SayError")) (rS : ClX.CRead K (He.ga K "SayError") (.type "type"))
    (vS : PySem.W.findCls K (xc K "SayError") (.type "type") "__init__" = some (.val (.builtin "ValueError.__init__"))) : Xi P w K mg base "HasLetter" "letter" := by
  have c : Ca P w K mg base CX0 1 fI fun vs H Q E => ∃ (a : Addr) (y : V), vs = [.ref a, y] ∧ H a = some (exo a (He.ga K "HasLetter") none) ∧ ∀ dx, H dx = none → dx ≠ a → Q .non (upd (upd H dx (exd dx [("letter", y)])) a (exo a (He.ga K "HasLetter") (some dx))) := by
    refine D.ok c_HasLetter_init (fun vs H Q E h => ?_) fun cdv A outer s H vs Q E hr h => ?_
    · obtain ⟨a, y, rfl, _⟩ := h
      rfl
    obtain ⟨a, y, rfl, ha, k⟩ := h
    refine ⟨_, pss_cons (ps_expr (pe_supI hS rS vS (pa_cons (pv 0) (pa_cons pe_str pa_nil)))) (pss_one (ps_ost (pv 0) (pv 1))), ?_⟩
    exact ⟨_, rfl, a, _, _, rfl, by simp, o, ha, _, rfl, _, rfl, a, _, rfl, o, no, .inl ⟨ha, k⟩⟩
  obtain ⟨fd, ps, F, b⟩ := c.ex
  exact ⟨o, at_, no, fI, fd, ps, i1, i2, b, F⟩

/-! # claims -/
/-- sayings of s with the property, in a new list -/
def spNew (p : Say → Prop) : Sp := fun vs H Q _ => ∃ (v : V) (s : Say), vs = [v] ∧ SayAt H s v ∧ s.ht ≤ 150 ∧ s.size ≤ 20000 ∧ NewSays H Q fun t => t ∈ s.parts ∧ p t
theorem NewSays.imp {H : Hp} {Q : VK} {p q : Say → Prop} (h : NewSays H Q p) (i : ∀ t, q t ↔ p t) : NewSays H Q q := fun a ys ts H' g na ha ht up hm => h a ys ts H' g na ha ht up fun t => (hm t).trans (i t)
/-- the claim at q -/
def ClaimAt (H : Hp) (q : Addr) (ls rs : List Say) : Prop := ∃ (l r : Addr) (us zs : List V), H q = some (.tup [.ref l, .ref r]) ∧ H l = some (.lst us) ∧ H r = some (.lst zs) ∧ SaysAt H ls us ∧ SaysAt H rs zs ∧ (∀ s ∈ ls ++ rs, s.ht ≤ 150 ∧ s.size ≤ 20000) ∧ ls.length + rs.length ≤ 2
theorem ClaimAt.mono {H H' : Hp} {q : Addr} {ls rs : List Say} (g : Same H H') : ClaimAt H q ls rs → ClaimAt H' q ls rs := fun ⟨l, r, us, zs, h1, h2, h3, h4, h5, h6⟩ => ⟨l, r, us, zs, g _ _ h1, g _ _ h2, g _ _ h3, h4.mono g, h5.mono g, h6⟩
def spGath (p : Say → Prop) : Sp := fun vs H Q _ => ∃ (q : Addr) (ls rs : List Say), vs = [.ref q] ∧ ClaimAt H q ls rs ∧ NewSays H Q fun t => ∃ s ∈ ls ++ rs, t ∈ s.parts ∧ p t

theorem cl_claim_parts (D : Df K mg "claim_parts" "claim_parts" "claim_parts" s_claim_parts ["claim"]) (cF : Cl P w K mg base CX0 154 "parts_of" (spNew (fun t => True))) (cU : Cl P w K mg base CX0 2 "unlike" (spOnce (K := K))) : Cl P w K mg base CX0 155 "claim_parts" (spGath fun t => True) := by
  refine D.ok c_claim_parts (fun vs H Q E h => ?_) fun f cdv A outer s H vs Q E hr h => ?_
  · obtain ⟨q, ls, rs, rfl, _⟩ := h
    rfl
  obtain ⟨q, ls, rs, rfl, hC, k⟩ := h
  obtain ⟨l, r, us, zs, hq, hl, hr2, h1, h2, hall, hlen⟩ := hC
  refine ⟨_, pss_cons (ps_set (i := 1) c_claim_parts.nd rfl (Or.inl rfl) (pe_lst pa_nil))
    (pss_cons (ps_for PassesOwn.never rfl (pi_list (pe_op op_cat (pe_ix ix_tup (pv 0) pe_int (fun _ _ => rfl)) (pe_ix ix_tup (pv 0) pe_int (fun _ _ => rfl)))) (pg_name (i := 2) c_claim_parts.nd rfl (Or.inl rfl))
      (pss_one (ps_expr (pe_bm PySem.F.plainAttrs_list PySem.F.slot_list_extend PySem.F.type_list_extend mt_extend (pv 1) (pa_cons (pe_c0 cF hr (by omega) (pa_cons (pv 2) pa_nil)) pa_nil)))))
    (pss_one (ps_ret (pe_c0 cU hr (by omega) (pa_cons (pv 1) pa_nil))))), ?_⟩
  refine ⟨sz (by decide), fun L hL => ?_⟩
  have g0 := same_new hL (.lst [])
  have n1 := Paired.len h1
  have n2 := Paired.len h2
  refine q_ix rfl (g0 _ _ hq) at0 (q_ix rfl (g0 _ _ hq) at1 ⟨l, r, us, zs, rfl, rfl, g0 _ _ hl, g0 _ _ hr2, sz (by omega), fun p hp => ⟨p, rfl, ⟨_, SqL.of upd_same⟩, ?_⟩⟩)
  have g1 := g0.trans (same_new hp (.lst (us ++ zs)))
  have npL : p ≠ L := fun e => by rw [e, upd_same] at hp; cases hp
  have hL1 : (upd (upd H L (.lst [])) p (.lst (us ++ zs))) L = some (.lst []) := by rw [upd_ne npL.symm]; exact upd_same
  have hpair : SaysAt (upd (upd H L (.lst [])) p (.lst (us ++ zs))) (ls ++ rs) (us ++ zs) := paired_app (h1.mono g1) (h2.mono g1)
  have hlen2 := Paired.len hpair
  have hlr : (ls ++ rs).length ≤ 2 := by rw [List.length_append]; exact hlen
  refine for_list (K := K) (a := p) (xs := us ++ zs) (fun i σ H2 => ∃ (o : Option V) (ws : List V) (fs : List Say), σ = [some (.ref q), some (.ref L), o] ∧ Exc L (upd (upd H L (.lst [])) p (.lst (us ++ zs))) H2 ∧ H2 L = some (.lst ws) ∧ SaysAt H2 fs ws ∧ fs.length ≤ 20000 * i ∧ ∀ t, t ∈ fs ↔ ∃ s ∈ (ls ++ rs).take i, t ∈ s.parts ∧ True)
    ⟨none, [], [], rfl, fun b o _ q => q, hL1, .nil, by simp, fun t => by simp⟩ (fun i σ H2 _ ⟨_, _, _, _, ex, _⟩ => SqL.of (ex _ _ npL upd_same)) (fun i u σ H2 hi h => ?_) fun σ H2 h => ?_
  · obtain ⟨o, ws, fs, rfl, ex, hL2, hw, hz, hm⟩ := h
    have hil : i < (ls ++ rs).length := by rw [hlen2]; exact (List.getElem?_eq_some_iff.mp hi).1
    have ht : (ls ++ rs)[i]? = some (ls ++ rs)[i] := List.getElem?_eq_getElem hil
    have hut : SayAt H2 (ls ++ rs)[i] u := (paired_get hpair i _ u ht hi).exc hL1 ex
    obtain ⟨b1, b2⟩ := hall _ (List.getElem_mem hil)
    refine ⟨_, rfl, .inl ⟨rfl, _, SqL.of hL2⟩, _, rfl, u, (ls ++ rs)[i], rfl, hut, b1, b2, fun a ys ts H3 g3 na ha hts up hts2 => ?_⟩
    have hle : ts.length ≤ 20000 := by
      have : ts.length ≤ ((ls ++ rs)[i]).size := by
        rw [← Say.parts_len]
        exact nodup_le (up_nodup up) fun t ht => ((hts2 t).mp ht).1
      omega
    have l1 := Paired.len hw
    have l2 := Paired.len hts
    refine ⟨L, a, ws, ys, rfl, rfl, g3 _ _ hL2, ha, szm (by omega), some u, ws ++ ys, fs ++ ts, rfl, fun b o hb q => by rw [upd_ne hb]; exact g3 _ _ (ex _ _ hb q), upd_same, ?_, ?_, fun t => ?_⟩
    · have e2 : Exc L H3 (upd H3 L (.lst (ws ++ ys))) := fun b o hb q => by rw [upd_ne hb]; exact q
      exact paired_app (SaysAt.exc (g3 _ _ hL2) e2 (hw.mono g3)) (SaysAt.exc (g3 _ _ hL2) e2 hts)
    · rw [List.length_append]; omega
    · rw [List.mem_append, hm, hts2, take_snoc ht]
      constructor
      · rintro (⟨s, h, h'⟩ | h)
        · exact ⟨s, List.mem_append_left _ h, h'⟩
        · exact ⟨_, List.mem_append_right _ (List.mem_singleton.mpr rfl), h⟩
      · rintro ⟨s, h, h'⟩
        rcases List.mem_append.mp h with h | h
        · exact .inl ⟨s, h, h'⟩
        · rw [List.mem_singleton.mp h] at h'; exact .inr h'
  · obtain ⟨o, ws, fs, rfl, ex, hL2, hw, hz, hm⟩ := h
    rw [List.take_of_length_le (by omega)] at hm
    have hxl : (us ++ zs).length ≤ 2 := by omega
    refine ⟨_, rfl, L, ws, fs, rfl, SqL.of hL2, hw, fun t ht => ?_, ?_, fun a ys ts H3 g3 na ha hts up hts2 => ?_⟩
    · obtain ⟨s, hs, ht, _⟩ := (hm t).mp ht
      have := Say.part_ht ht
      have := (hall s hs).1
      omega
    · have : 20000 * (us ++ zs).length ≤ 20000 * 2 := Nat.mul_le_mul_left _ hxl
      omega
    · have gg : Same H H2 := fun b o q => ex _ _ (ne_of_none q hL) (g1 _ _ q)
      exact k a ys ts H3 (gg.trans g3) (gg.free na) ha hts up fun t => (hts2 t).trans (hm t)

theorem cl_claim_shown (D : Df K mg "claim_shown" "claim_shown" "claim_shown" s_claim_shown ["claim"]) (cF : Cl P w K mg base CX0 154 "shown_parts" (spNew (fun t => t.isShown = true))) (cU : Cl P w K mg base CX0 2 "unlike" (spOnce (K := K))) : Cl P w K mg base CX0 155 "claim_shown" (spGath fun t => t.isShown = true) := by
  refine D.ok c_claim_shown (fun vs H Q E h => ?_) fun f cdv A outer s H vs Q E hr h => ?_
  · obtain ⟨q, ls, rs, rfl, _⟩ := h
    rfl
  obtain ⟨q, ls, rs, rfl, hC, k⟩ := h
  obtain ⟨l, r, us, zs, hq, hl, hr2, h1, h2, hall, hlen⟩ := hC
  refine ⟨_, pss_cons (ps_set (i := 1) c_claim_shown.nd rfl (Or.inl rfl) (pe_lst pa_nil))
    (pss_cons (ps_for PassesOwn.never rfl (pi_list (pe_op op_cat (pe_ix ix_tup (pv 0) pe_int (fun _ _ => rfl)) (pe_ix ix_tup (pv 0) pe_int (fun _ _ => rfl)))) (pg_name (i := 2) c_claim_shown.nd rfl (Or.inl rfl))
      (pss_one (ps_expr (pe_bm PySem.F.plainAttrs_list PySem.F.slot_list_extend PySem.F.type_list_extend mt_extend (pv 1) (pa_cons (pe_c0 cF hr (by omega) (pa_cons (pv 2) pa_nil)) pa_nil)))))
    (pss_one (ps_ret (pe_c0 cU hr (by omega) (pa_cons (pv 1) pa_nil))))), ?_⟩
  refine ⟨sz (by decide), fun L hL => ?_⟩
  have g0 := same_new hL (.lst [])
  have n1 := Paired.len h1
  have n2 := Paired.len h2
  refine q_ix rfl (g0 _ _ hq) at0 (q_ix rfl (g0 _ _ hq) at1 ⟨l, r, us, zs, rfl, rfl, g0 _ _ hl, g0 _ _ hr2, sz (by omega), fun p hp => ⟨p, rfl, ⟨_, SqL.of upd_same⟩, ?_⟩⟩)
  have g1 := g0.trans (same_new hp (.lst (us ++ zs)))
  have npL : p ≠ L := fun e => by rw [e, upd_same] at hp; cases hp
  have hL1 : (upd (upd H L (.lst [])) p (.lst (us ++ zs))) L = some (.lst []) := by rw [upd_ne npL.symm]; exact upd_same
  have hpair : SaysAt (upd (upd H L (.lst [])) p (.lst (us ++ zs))) (ls ++ rs) (us ++ zs) := paired_app (h1.mono g1) (h2.mono g1)
  have hlen2 := Paired.len hpair
  have hlr : (ls ++ rs).length ≤ 2 := by rw [List.length_append]; exact hlen
  refine for_list (K := K) (a := p) (xs := us ++ zs) (fun i σ H2 => ∃ (o : Option V) (ws : List V) (fs : List Say), σ = [some (.ref q), some (.ref L), o] ∧ Exc L (upd (upd H L (.lst [])) p (.lst (us ++ zs))) H2 ∧ H2 L = some (.lst ws) ∧ SaysAt H2 fs ws ∧ fs.length ≤ 20000 * i ∧ ∀ t, t ∈ fs ↔ ∃ s ∈ (ls ++ rs).take i, t ∈ s.parts ∧ t.isShown = true)
    ⟨none, [], [], rfl, fun b o _ q => q, hL1, .nil, by simp, fun t => by simp⟩ (fun i σ H2 _ ⟨_, _, _, _, ex, _⟩ => SqL.of (ex _ _ npL upd_same)) (fun i u σ H2 hi h => ?_) fun σ H2 h => ?_
  · obtain ⟨o, ws, fs, rfl, ex, hL2, hw, hz, hm⟩ := h
    have hil : i < (ls ++ rs).length := by rw [hlen2]; exact (List.getElem?_eq_some_iff.mp hi).1
    have ht : (ls ++ rs)[i]? = some (ls ++ rs)[i] := List.getElem?_eq_getElem hil
    have hut : SayAt H2 (ls ++ rs)[i] u := (paired_get hpair i _ u ht hi).exc hL1 ex
    obtain ⟨b1, b2⟩ := hall _ (List.getElem_mem hil)
    refine ⟨_, rfl, .inl ⟨rfl, _, SqL.of hL2⟩, _, rfl, u, (ls ++ rs)[i], rfl, hut, b1, b2, fun a ys ts H3 g3 na ha hts up hts2 => ?_⟩
    have hle : ts.length ≤ 20000 := by
      have : ts.length ≤ ((ls ++ rs)[i]).size := by
        rw [← Say.parts_len]
        exact nodup_le (up_nodup up) fun t ht => ((hts2 t).mp ht).1
      omega
    have l1 := Paired.len hw
    have l2 := Paired.len hts
    refine ⟨L, a, ws, ys, rfl, rfl, g3 _ _ hL2, ha, szm (by omega), some u, ws ++ ys, fs ++ ts, rfl, fun b o hb q => by rw [upd_ne hb]; exact g3 _ _ (ex _ _ hb q), upd_same, ?_, ?_, fun t => ?_⟩
    · have e2 : Exc L H3 (upd H3 L (.lst (ws ++ ys))) := fun b o hb q => by rw [upd_ne hb]; exact q
      exact paired_app (SaysAt.exc (g3 _ _ hL2) e2 (hw.mono g3)) (SaysAt.exc (g3 _ _ hL2) e2 hts)
    · rw [List.length_append]; omega
    · rw [List.mem_append, hm, hts2, take_snoc ht]
      constructor
      · rintro (⟨s, h, h'⟩ | h)
        · exact ⟨s, List.mem_append_left _ h, h'⟩
        · exact ⟨_, List.mem_append_right _ (List.mem_singleton.mpr rfl), h⟩
      · rintro ⟨s, h, h'⟩
        rcases List.mem_append.mp h with h | h
        · exact .inl ⟨s, h, h'⟩
        · rw [List.mem_singleton.mp h] at h'; exact .inr h'
  · obtain ⟨o, ws, fs, rfl, ex, hL2, hw, hz, hm⟩ := h
    rw [List.take_of_length_le (by omega)] at hm
    have hxl : (us ++ zs).length ≤ 2 := by omega
    refine ⟨_, rfl, L, ws, fs, rfl, SqL.of hL2, hw, fun t ht => ?_, ?_, fun a ys ts H3 g3 na ha hts up hts2 => ?_⟩
    · obtain ⟨s, hs, ht, _⟩ := (hm t).mp ht
      have := Say.part_ht ht
      have := (hall s hs).1
      omega
    · have : 20000 * (us ++ zs).length ≤ 20000 * 2 := Nat.mul_le_mul_left _ hxl
      omega
    · have gg : Same H H2 := fun b o q => ex _ _ (ne_of_none q hL) (g1 _ _ q)
      exact k a ys ts H3 (gg.trans g3) (gg.free na) ha hts up fun t => (hts2 t).trans (hm t)

/-! # searched: only where it is refused -/
/-- more than six unlike shown parts stand in them -/
def Crowd (ss : List Say) : Prop := ∃ T : List Say, T.Nodup ∧ 6 < T.length ∧ ∀ t ∈ T, t.isShown = true ∧ ∃ s ∈ ss, t ∈ s.parts
def spSearched : Sp := fun vs H _ E => ∃ (q : Addr) (ls rs : List Say), vs = [.ref q] ∧ ClaimAt H q ls rs ∧ Crowd (ls ++ rs) ∧ Rz K H E .many
theorem cl_searched (D : Df K mg "searched" "searched" "searched" s_searched ["claim"]) (T : Tx mg) (cP : Cl P w K mg base CX0 155 "claim_parts" (spGath fun _ => True)) (cS : Cl P w K mg base CX0 155 "claim_shown" (spGath fun t => t.isShown = true))
    (i1 : ∃ t, mg "MOST_PARTS_searching" = some (.int 40 t)) (i2 : ∃ t, mg "MOST_SHOWN_searching" = some (.int 6 t)) (X : Xc K mg "TooMany") : Cl P w K mg base (L2.CX P w) 156 "searched" (spSearched (K := K)) := by
  refine D.okX c_searched (fun vs H Q E h => ?_) fun f cdv A outer s H vs Q E hr h => ?_
  · obtain ⟨q, ls, rs, rfl, _⟩ := h
    rfl
  obtain ⟨q, ls, rs, rfl, hC, ⟨U, u1, u2, u3⟩, k⟩ := h
  obtain ⟨t1, m1⟩ := i1
  obtain ⟨t2, m2⟩ := i2
  refine ⟨_, pss_cons (ps_if (PW.pt (pw_or (pt_cmpR op_gt (pe_callB call_len_seq rfl T.len PySem.boot_len (pa_cons (pe_c0 cP hr (by omega) (pa_cons (pv 0) pa_nil)) pa_nil)) (pe_glob (v := .int 40) rfl m1 ⟨t1, rfl⟩) (nomark _))
      (pw_or1 (pt_cmpR op_gt (pe_callB call_len_seq rfl T.len PySem.boot_len (pa_cons (pe_c0 cS hr (by omega) (pa_cons (pv 0) pa_nil)) pa_nil)) (pe_glob (v := .int 6) rfl m2 ⟨t2, rfl⟩) (nomark _)))))
    (pss_one (ps_raise rfl (takes_of rfl rfl rfl rfl) (pmk0 X))) pss_nil) pss_never, ?_⟩
  refine ⟨_, rfl, q, ls, rs, rfl, hC, fun a ys ts H1 g1 na ha hts up hm => ?_⟩
  refine ⟨a, ys, rfl, .inl (SqL.of ha), _, _, rfl, rfl, _, rfl, ite2 (fun c => iteT (k _ _ _ g1 ⟨rfl, rfl⟩)) fun c => ?_⟩
  refine ⟨_, rfl, q, ls, rs, rfl, hC.mono g1, fun a2 ys2 ts2 H2 g2 na2 ha2 hts2 up2 hm2 => ?_⟩
  refine ⟨a2, ys2, rfl, .inl (SqL.of ha2), _, _, rfl, rfl, _, rfl, ?_⟩
  have hle : U.length ≤ ts2.length := nodup_le u1 fun t ht => by
    obtain ⟨h1, s, h2, h3⟩ := u3 t ht
    exact (hm2 t).mpr ⟨s, h2, h3, h1⟩
  have hl2 := Paired.len hts2
  refine ite2 (fun _ => ?_) fun c => absurd (decide_eq_true (show ((ys2.length : Nat) : Int) > 6 by omega)) c
  first | exact k _ _ _ (g1.trans g2) ⟨rfl, rfl⟩ | exact iteT (k _ _ _ (g1.trans g2) ⟨rfl, rfl⟩)
/-! # judged, alike -/
def spJudged : Sp := fun vs H _ E => ∃ (v : V) (s : Say), vs = [v] ∧ SayAt H s v ∧ s.ht ≤ 150 ∧ s.size ≤ 20000 ∧ Crowd [s] ∧ Rz K H E .many
theorem Rz.of {K : PySem.W.Frag} {H H1 : Hp} {E : XK} {b : Bad} (h : Rz K H E b) (g : Same H H1) : Rz K H1 E b := h.mono g
theorem cl_judged (D : Df K mg "judged" "judged" "judged" s_judged ["saying"]) (cC : Cl P w K mg base CX0 3 "claim_of" (spClaim (K := K))) (cS : Cl P w K mg base (L2.CX P w) 156 "searched" (spSearched (K := K))) : Cl P w K mg base (L2.CX P w) 157 "judged" (spJudged (K := K)) := by
  refine D.okX c_judged (fun vs H Q E h => ?_) fun f cdv A outer s H vs Q E hr h => ?_
  · obtain ⟨v, s, rfl, _⟩ := h
    rfl
  obtain ⟨v, x, rfl, hx, hh, hz, ⟨U, u1, u2, u3⟩, k⟩ := h
  refine ⟨_, pss_one (ps_ret (pe_cl (E := E) cS hr (by omega) (passes_call (takes_of rfl rfl rfl rfl) fun _ _ _ _ h => h) (pa_cons (pe_c0 cC hr (by omega) (pa_cons (pe_lst pa_nil) (pa_cons (pe_lst (pa_cons (pv 0) pa_nil)) pa_nil))) pa_nil))), ?_⟩
  refine ⟨sz (n := 0) (by decide), fun l nl => ⟨_, rfl, sz (n := 1) (by decide), fun r nr => ?_⟩⟩
  have g1 := same_new nl (.lst [])
  have g2 := same_new nr (.lst [v])
  refine ⟨l, r, [], [v], [], [x], rfl, ⟨SqL.of (g2 _ _ upd_same), .nil, fun _ h => (by cases h), by simp⟩, ⟨SqL.of upd_same, .cons (hx.mono (g1.trans g2)) .nil, fun t ht => by rw [List.mem_singleton.mp ht]; exact hh, by simp⟩, ?_⟩
  intro q l2 r2 us zs ls rs H' g3 nq hq hl hr2 h1 h2 p1 p2 m1 m2
  have e1 : ls = [] := List.eq_nil_iff_forall_not_mem.mpr fun t ht => by have := (m1 t).mp ht; cases this
  have l2' : rs.length ≤ 1 := nodup_le (m := [x]) (up_nodup p2) fun t ht => (m2 t).mp ht
  refine ⟨q, ls, rs, rfl, ⟨l2, r2, us, zs, hq, hl, hr2, h1, h2, fun t ht => ?_, by rw [e1]; simpa using (by omega : rs.length ≤ 2)⟩, ⟨U, u1, u2, fun t ht => ?_⟩, k.mono ((g1.trans g2).trans g3)⟩
  · rw [e1, List.nil_append, m2, List.mem_singleton] at ht
    rw [ht]; exact ⟨hh, hz⟩
  · obtain ⟨a1, s1, b1, c1⟩ := u3 t ht
    refine ⟨a1, s1, ?_, c1⟩
    rw [e1, List.nil_append, m2]; exact b1
def spAlike : Sp := fun vs H _ E => ∃ (v u : V) (s t : Say), vs = [v, u] ∧ SayAt H s v ∧ SayAt H t u ∧ (s.ht ≤ 150 ∧ s.size ≤ 20000) ∧ (t.ht ≤ 150 ∧ t.size ≤ 20000) ∧ Crowd [s, t] ∧ Rz K H E .many
theorem cl_alike (D : Df K mg "alike" "alike" "alike" s_alike ["one", "other"]) (cC : Cl P w K mg base CX0 3 "claim_of" (spClaim (K := K))) (cS : Cl P w K mg base (L2.CX P w) 156 "searched" (spSearched (K := K))) : Cl P w K mg base (L2.CX P w) 157 "alike" (spAlike (K := K)) := by
  refine D.okX c_alike (fun vs H Q E h => ?_) fun f cdv A outer s H vs Q E hr h => ?_
  · obtain ⟨v, u, s, t, rfl, _⟩ := h
    rfl
  obtain ⟨v, u, x, y, rfl, hx, hy, bx, by_, ⟨U, u1, u2, u3⟩, k⟩ := h
  refine ⟨_, pss_cons (ps_set (i := 2) c_alike.nd rfl (Or.inl rfl) (pe_cl (E := E) cS hr (by omega) (passes_call (takes_of rfl rfl rfl rfl) fun _ _ _ _ h => h) (pa_cons (pe_c0 cC hr (by omega) (pa_cons (pe_lst (pa_cons (pv 0) pa_nil)) (pa_cons (pe_lst (pa_cons (pv 1) pa_nil)) pa_nil))) pa_nil))) pss_never, ?_⟩
  refine ⟨_, rfl, sz (n := 1) (by decide), fun l nl => ⟨_, rfl, sz (n := 1) (by decide), fun r nr => ?_⟩⟩
  have g1 := same_new nl (.lst [v])
  have g2 := same_new nr (.lst [u])
  refine ⟨l, r, [v], [u], [x], [y], rfl, ⟨SqL.of (g2 _ _ upd_same), .cons (hx.mono (g1.trans g2)) .nil, fun t ht => by rw [List.mem_singleton.mp ht]; exact bx.1, by simp⟩, ⟨SqL.of upd_same, .cons (hy.mono (g1.trans g2)) .nil, fun t ht => by rw [List.mem_singleton.mp ht]; exact by_.1, by simp⟩, ?_⟩
  intro q l2 r2 us zs ls rs H' g3 nq hq hl hr2 h1 h2 p1 p2 m1 m2
  have l1' : ls.length ≤ 1 := nodup_le (m := [x]) (up_nodup p1) fun t ht => (m1 t).mp ht
  have l2' : rs.length ≤ 1 := nodup_le (m := [y]) (up_nodup p2) fun t ht => (m2 t).mp ht
  refine ⟨q, ls, rs, rfl, ⟨l2, r2, us, zs, hq, hl, hr2, h1, h2, fun t ht => ?_, by omega⟩, ⟨U, u1, u2, fun t ht => ?_⟩, k.mono ((g1.trans g2).trans g3)⟩
  · rcases List.mem_append.mp ht with ht | ht
    · rw [m1, List.mem_singleton] at ht; rw [ht]; exact bx
    · rw [m2, List.mem_singleton] at ht; rw [ht]; exact by_
  · obtain ⟨a1, s1, b1, c1⟩ := u3 t ht
    refine ⟨a1, s1, ?_, c1⟩
    rcases List.mem_cons.mp b1 with rfl | b1
    · exact List.mem_append_left _ ((m1 _).mpr (List.mem_singleton.mpr rfl))
    · exact List.mem_append_right _ ((m2 _).mpr b1)
end
end SD
namespace SD
open PySem PySem.Spec PyProof.Rows L2
section
variable {P : Program} {w : World} {K : PySem.W.Frag} {mg : Str → Option Value} {base : Heap}
/-! # the selves: only where they are refused -/
def spGather2 (n : Nat) : Sp := fun vs H Q E => ∃ (v : V) (L : Addr) (s : Say) (acc : List V), vs = [v, .ref L] ∧ SayAt H s v ∧ H L = some (.lst acc) ∧ s.ht < n ∧ s.ht ≤ 150 ∧ s.size ≤ 20000 ∧ acc.length + s.size ≤ 50000 ∧
  (s.outside = true → ∀ H', Exc L H H' → E (xc K "Outside") none H') ∧
  (s.outside = false → ∀ (H' : Hp) (ws : List V) (ss : List Say), Exc L H H' → H' L = some (.lst (acc ++ ws)) → SaysAt H' ss ws → (∀ t ∈ ss, t.ht ≤ 150) → ws.length ≤ s.size → Q .non H')
theorem outside_take {l : List Say} {i : Nat} {x : Say} (h : l[i]? = some x) (hx : x.outside = true) : l.any Say.outside = true := List.any_eq_true.mpr ⟨x, List.mem_of_getElem? h, hx⟩
theorem cl_gather2 (D : Df K mg "gather_selves" "gather" "gather" s_gather2 ["saying", "found"]) (cL : ∀ n : Nat, Cl P w K mg base CX0 (n + 3) "letters_of" (spLettersN n)) (iL : ∃ t, mg "LETTER" = some (.str "p" t)) (X : Xc K mg "Outside") : ∀ n : Nat, Cl P w K mg base (L2.CX P w) (n + 4) "gather_selves" (spGather2 (K := K) n)
  | 0 => D.no fun vs H Q E h => by
    obtain ⟨v, L, s, acc, _, _, _, h, _⟩ := h
    omega
  | n + 1 => by
    have ih := cl_gather2 D cL iL X n
    have cL := cL (n + 1)
    obtain ⟨tL, mL⟩ := iL
    refine Cl.mono (j := n + 4 + 1) (D.okX c_gather2 (fun vs H Q E h => ?_) fun f cdv A outer s H vs Q E hr h => ?_) (by omega)
    · obtain ⟨v, L, s, acc, rfl, _⟩ := h
      rfl
    obtain ⟨v, L, x, acc, rfl, hx, hL, hh, hh2, hz2, hz, kE, kQ⟩ := h
    refine ⟨_, pss_one (ps_if (pt_cmpR op_eq (pe_ix ix_tup (pv 0) pe_int (fun _ _ => rfl)) pe_str (nomark _))
        (pss_one (ps_if (pt_cmpR op_eq (pe_ix ix_tup (pv 0) pe_int (fun _ _ => rfl)) (pe_glob (v := .str "p") rfl mL ⟨tL, rfl⟩) (nomark _)) (pss_one (ps_raise rfl (takes_of rfl rfl rfl rfl) (pmk0 X))) pss_nil))
      (pss_one (ps_if (pt_cmpR op_eq (pe_ix ix_tup (pv 0) pe_int (fun _ _ => rfl)) pe_str (nomark _))
        (pss_one (ps_if (pt_cmpR op_in_seq (pe_glob (v := .str "p") rfl mL ⟨tL, rfl⟩) (pe_c0 cL hr (by omega) (pa_cons (pv 0) pa_nil)) rfl)
          (pss_one (ps_expr (pe_bm PySem.F.plainAttrs_list PySem.F.slot_list_append PySem.F.type_list_append mt_append (pv 1) (pa_cons (pv 0) pa_nil)))) pss_nil))
        (pss_one (ps_for (passes_of rfl) rfl (pi_tup (pe_slice sl_tup (pv 0) (po_some pe_int) po_none)) (pg_name (i := 2) c_gather2.nd rfl (Or.inl rfl))
          (pss_one (ps_expr (pe_cl (E := E) ih hr (by omega) (passes_call (takes_of rfl rfl rfl rfl) fun _ _ _ _ h => h) (pa_cons (pv 2) (pa_cons (pv 1) pa_nil)))))))))), ?_⟩
    have hs := Say.size_pos x
    have e0 : Exc L H H := fun _ _ _ q => q
    refine q_is rfl hx (ite2 (fun c1 => ?_) fun c1 => ?_)
    · have e := word_letter.mp (of_decide_eq_true c1)
      cases x <;> simp [Say.isLetter] at e
      rename_i l
      obtain ⟨a, rfl, ha⟩ := id hx
      refine q_ix rfl ha at1 ⟨rfl, _, rfl, ?_⟩
      have e3 : decide (V.str l.str = V.str "p") = (Say.letter l).outside := by cases l <;> decide +kernel
      rw [e3]
      refine ite2 (fun c => kE c H e0) fun c => kQ (Bool.eq_false_iff.mpr c) H [] [] e0 (by rw [List.append_nil]; exact hL) .nil (fun _ h => absurd h (by simp)) (by simp)
    refine q_is rfl hx (ite2 (fun c2 => ?_) fun c2 => ?_)
    · have e := word_shown.mp (of_decide_eq_true c2)
      cases x <;> simp [Say.isShown] at e
      rename_i y
      refine ⟨_, rfl, v, _, rfl, hx, hh, hh2, hz2, fun a H1 g1 na ha => ?_⟩
      refine ⟨a, _, rfl, .inl (SqL.of ha), rfl, ?_, _, rfl, ?_⟩
      · rw [List.all_eq_true]; intro z hz; obtain ⟨c, _, rfl⟩ := List.mem_map.mp hz; rfl
      refine ite2 (fun c => ?_) fun c => ?_
      · refine ⟨_, rfl, .inl ⟨rfl, _, SqL.of (g1 _ _ hL)⟩, _, rfl, L, acc, _, rfl, rfl, g1 _ _ hL, szml (by omega), ?_⟩
        have e1 : Exc L H1 (upd H1 L (.lst (acc ++ [v]))) := fun b o hb q => by rw [upd_ne hb]; exact q
        exact kQ rfl _ [v] [_] (fun b o hb q => e1 _ _ hb (g1 _ _ q)) upd_same (.cons ((hx.mono g1).exc (g1 _ _ hL) e1) .nil) (fun t ht => by rw [List.mem_singleton.mp ht]; exact hh2) (by simp; omega)
      · exact kQ rfl H1 [] [] (fun b o _ q => g1 _ _ q) (by rw [List.append_nil]; exact g1 _ _ hL) .nil (fun _ h => absurd h (by simp)) (by simp)
    obtain ⟨a, r, rfl, ha, hr2⟩ := hx.tup
    have hu : SaysAt H x.kids r := by cases x <;> first | exact hr2 | exact absurd (decide_eq_true rfl) c1
    have hou : x.outside = x.kids.any Say.outside := by
      refine outside_kids ?_ ?_
      · cases h : x.isShown with
        | false => rfl
        | true => exact absurd (decide_eq_true (word_shown.mpr h)) c2
      · cases h : x.isLetter with
        | false => rfl
        | true => exact absurd (decide_eq_true (word_letter.mpr h)) c1
    refine ⟨_, rfl, _, rfl, a, _, rfl, SqT.of ha, not_whole, fun q hq => ?_⟩
    rw [cut_rest]
    have g1 := same_new hq (.tup r)
    refine ⟨q, rfl, ⟨_, SqT.of upd_same⟩, ?_⟩
    have nqL : q ≠ L := fun e => by rw [e, hL] at hq; cases hq
    have hL1 : (upd H q (.tup r)) L = some (.lst acc) := g1 _ _ hL
    have hlen := Paired.len hu
    have hks := kids_sum x
    refine for_tup (K := K) (a := q) (xs := r) (fun i σ H2 => ∃ (o : Option V) (ws : List V) (ss : List Say), σ = [some (.ref a), some (.ref L), o] ∧ Exc L (upd H q (.tup r)) H2 ∧ H2 L = some (.lst (acc ++ ws)) ∧ SaysAt H2 ss ws ∧ (∀ t ∈ ss, t.ht ≤ 150) ∧ ws.length ≤ ((x.kids.take i).map Say.size).sum ∧ (x.kids.take i).any Say.outside = false)
      ⟨none, [], [], rfl, fun b o _ q => q, by rw [List.append_nil]; exact hL1, .nil, fun _ h => absurd h (by simp), by simp, by simp⟩ (fun i σ H2 _ ⟨_, _, _, _, ex, _⟩ => SqT.of (ex _ _ nqL upd_same)) (fun i u σ H2 hi h => ?_) fun σ H2 h => ?_
    · obtain ⟨o, ws, ss, rfl, ex, hL2, hw, hb, hwl, hno⟩ := h
      have hil : i < x.kids.length := by rw [hlen]; exact (List.getElem?_eq_some_iff.mp hi).1
      have ht : x.kids[i]? = some x.kids[i] := List.getElem?_eq_getElem hil
      have tm := List.mem_of_getElem? ht
      have hth := kid_ht tm
      have htz := kid_size tm
      have hut : SayAt H2 x.kids[i] u := ((paired_get hu i _ u ht hi).mono g1).exc hL1 ex
      have hts := take_sum (l := x.kids.map Say.size) (i := i) (x := x.kids[i].size) (by rw [List.getElem?_map, ht]; rfl)
      rw [← List.map_take] at hts
      refine ⟨_, rfl, _, rfl, u, L, x.kids[i], _, rfl, hut, hL2, by omega, by omega, by omega, ?_, fun hO H3 ex3 => ?_, fun hO H3 ws' ss' ex3 hL3 hw3 hb3 hwl3 => ?_⟩
      · rw [List.length_append]; omega
      · exact kE (by rw [hou]; exact outside_take ht hO) H3 fun b o hb q => ex3 _ _ hb (ex _ _ hb (g1 _ _ q))
      · refine ⟨some u, ws ++ ws', ss ++ ss', rfl, fun b o hb q => ex3 _ _ hb (ex _ _ hb q), ?_, paired_app (SaysAt.exc hL2 ex3 hw) hw3, fun t ht => (List.mem_append.mp ht).elim (hb t) (hb3 t), ?_, ?_⟩
        · rw [hL3, ← List.append_assoc]
        · rw [take_snoc ht, List.map_append, List.sum_append, List.length_append, List.map_cons, List.map_nil, List.sum_cons, List.sum_nil]; omega
        · rw [take_snoc ht, List.any_append, hno]; simp [hO]
    · obtain ⟨o, ws, ss, rfl, ex, hL2, hw, hb, hwl, hno⟩ := h
      rw [List.take_of_length_le (by omega)] at hno hwl
      exact kQ (hou.trans hno) H2 ws ss (fun b o hb q => ex _ _ hb (g1 _ _ q)) hL2 hw hb (by omega)
def spOuter : Sp := fun vs H Q E => ∃ (v : V) (s : Say), vs = [v] ∧ SayAt H s v ∧ s.ht ≤ 120 ∧ s.size ≤ 20000 ∧ (s.outside = true → Rz K H E .outside) ∧ (s.outside = false → ∀ (a : Addr) (ys : List V) (H' : Hp), Same H H' → H' a = some (.lst ys) → Q (.ref a) H')
theorem cl_outer (D : Df K mg "outer_parts" "outer_parts" "outer_parts" s_outer_parts ["saying"]) (cG : Cl P w K mg base (L2.CX P w) 125 "gather_selves" (spGather2 (K := K) 121)) (cO : Cl P w K mg base CX0 1 "each_once" (spOnce (K := K))) : Cl P w K mg base (L2.CX P w) 126 "outer_parts" (spOuter (K := K)) := by
  refine D.okX c_outer_parts (fun vs H Q E h => ?_) fun f cdv A outer s H vs Q E hr h => ?_
  · obtain ⟨v, s, rfl, _⟩ := h
    rfl
  obtain ⟨v, x, rfl, hx, hh, hz, kE, kQ⟩ := h
  refine ⟨_, pss_cons (ps_set (i := 1) c_outer_parts.nd rfl (Or.inl rfl) (pe_lst pa_nil))
    (pss_cons (ps_expr (pe_cl (E := E) cG hr (by omega) (passes_call (takes_of rfl rfl rfl rfl) fun _ _ _ _ h => h) (pa_cons (pv 0) (pa_cons (pv 1) pa_nil))))
    (pss_one (ps_ret (pe_c0 cO hr (by omega) (pa_cons (pv 1) pa_nil))))), ?_⟩
  refine ⟨sz (by decide), fun L hL => ?_⟩
  have g0 := same_new hL (.lst [])
  refine ⟨_, rfl, _, rfl, v, L, x, [], rfl, hx.mono g0, upd_same, by omega, by omega, hz, by simpa using (by omega : x.size ≤ 50000), fun hO H1 ex => ?_, fun hO H1 ws ss ex hL1 hw hb hwl => ?_⟩
  · exact kE hO _ _ _ (fun b o q => ex _ _ (ne_of_none q hL) (g0 _ _ q)) ⟨rfl, rfl⟩
  · have hl := Paired.len hw
    refine ⟨_, rfl, L, ws, ss, rfl, SqL.of hL1, hw, fun t ht => by have := hb t ht; omega, by omega, fun p ys ts H2 g2 np hp ht hu hm => ?_⟩
    exact kQ hO p ys H2 (fun b o q => g2 _ _ (ex _ _ (ne_of_none q hL) (g0 _ _ q))) hp
def spAnswer : Sp := fun vs H _ E => ∃ (v : V) (s : Say) (b : Bad), vs = [v] ∧ SayAt H s v ∧ s.ht ≤ 120 ∧ s.size ≤ 20000 ∧ ((s.outside = true ∧ b = .outside) ∨ (s.outside = false ∧ 10 < s.size ∧ b = .many)) ∧ Rz K H E b
theorem cl_answer (D : Df K mg "answer" "answer" "answer" s_answer ["saying"]) (T : Tx mg) (cO : Cl P w K mg base (L2.CX P w) 126 "outer_parts" (spOuter (K := K))) (cZ : Cl P w K mg base CX0 122 "size_of" (spSize 121)) (i1 : ∃ t, mg "MOST_PARTS_selves" = some (.int 10 t)) (i2 : ∃ t, mg "MOST_OUTER" = some (.int 2 t)) (X : Xc K mg "TooMany") :
    Cl P w K mg base (L2.CX P w) 127 "answer" (spAnswer (K := K)) := by
  refine D.okX c_answer (fun vs H Q E h => ?_) fun f cdv A outer s H vs Q E hr h => ?_
  · obtain ⟨v, s, b, rfl, _⟩ := h
    rfl
  obtain ⟨v, x, b, rfl, hx, hh, hz, hb, k⟩ := h
  obtain ⟨t1, m1⟩ := i1
  obtain ⟨t2, m2⟩ := i2
  refine ⟨_, pss_cons (ps_set (i := 1) c_answer.nd rfl (Or.inl rfl) (pe_cl (E := E) cO hr (by omega) (passes_call (takes_of rfl rfl rfl rfl) fun _ _ _ _ h => h) (pa_cons (pv 0) pa_nil)))
    (pss_cons (ps_if (PW.pt (pw_or (pt_cmpR op_gt (pe_c0 cZ hr (by omega) (pa_cons (pv 0) pa_nil)) (pe_glob (v := .int 10) rfl m1 ⟨t1, rfl⟩) (nomark _))
      (pw_or1 (pt_cmpR op_gt (pe_callB call_len_seq rfl T.len PySem.boot_len (pa_cons (pv 1) pa_nil)) (pe_glob (v := .int 2) rfl m2 ⟨t2, rfl⟩) (nomark _)))))
      (pss_one (ps_raise rfl (takes_of rfl rfl rfl rfl) (pmk0 X))) pss_nil) pss_never), ?_⟩
  refine ⟨_, rfl, v, x, rfl, hx, hh, hz, fun hO => ?_, fun hO a ys H1 g1 ha => ?_⟩
  · rcases hb with ⟨_, rfl⟩ | ⟨h, _⟩
    · exact k
    · rw [hO] at h; cases h
  · rcases hb with ⟨h, _⟩ | ⟨_, h10, rfl⟩
    · rw [hO] at h; cases h
    refine ⟨_, rfl, v, x, rfl, hx.mono g1, by omega, by omega, fun H2 g2 => ⟨_, _, rfl, rfl, _, rfl, ?_⟩⟩
    refine ite2 (fun _ => ?_) fun c => absurd (decide_eq_true (show ((x.size : Nat) : Int) > 10 by omega)) c
    first | exact k _ _ _ (g1.trans g2) ⟨rfl, rfl⟩ | exact iteT (k _ _ _ (g1.trans g2) ⟨rfl, rfl⟩)
end
end SD
namespace SD
open PySem PySem.Spec PyProof.Rows L2 SX
section
variable {P : Program} {w : World} {K : PySem.W.Frag} {mg : Str → Option Value} {base : Heap}
/-! # the law's own list of shown parts -/
def foldS (l : List Say) : List Say := l.foldl (fun acc t => fresh acc (lshown t)) []
theorem lshown_kids {s : Say} (h : s.leaf = false) : lshown s = if s.isShown = true ∧ s ∉ foldS s.kids then foldS s.kids ++ [s] else foldS s.kids := by
  cases s with
  | no => simp [Say.leaf, Say.kids] at h
  | letter => simp [Say.leaf, Say.kids] at h
  | neg a => rfl
  | shown a =>
    show (if Say.shown a ∈ fresh [] (lshown a) then _ else _) = if true = true ∧ Say.shown a ∉ fresh [] (lshown a) then _ else _
    by_cases q : Say.shown a ∈ fresh [] (lshown a)
    · rw [if_pos q, if_neg (fun z => z.2 q)]; rfl
    · rw [if_neg q, if_pos ⟨rfl, q⟩]; rfl
  | bin o a b => rfl
theorem fresh_len (h l : List Say) : (fresh h l).length ≤ h.length + l.length := by
  unfold fresh
  rw [List.length_append]
  have := List.length_filter_le (fun t => decide (t ∉ h)) l
  omega
theorem foldS_snoc (l : List Say) (x : Say) : foldS (l ++ [x]) = fresh (foldS l) (lshown x) := by
  unfold foldS
  rw [List.foldl_append]; rfl
theorem foldS_len : ∀ (l : List Say) (acc : List Say), (l.foldl (fun acc t => fresh acc (lshown t)) acc).length ≤ acc.length + (l.map Say.size).sum
  | [], acc => by simp
  | x :: l, acc => by
    have h1 := foldS_len l (fresh acc (lshown x))
    have h2 := fresh_len acc (lshown x)
    have h3 : (lshown x).length ≤ x.size := many_le x
    rw [List.foldl_cons, List.map_cons, List.sum_cons]
    omega
theorem foldS_ht : ∀ (l : List Say) (acc : List Say) (t : Say), t ∈ l.foldl (fun acc t => fresh acc (lshown t)) acc → t ∈ acc ∨ ∃ s ∈ l, t ∈ s.parts
  | [], acc, t, h => .inl h
  | x :: l, acc, t, h => by
    rcases foldS_ht l _ t h with h | ⟨s, h1, h2⟩
    · rcases (fresh_mem _ _ _).mp h with h | h
      · exact .inl h
      · exact .inr ⟨x, List.mem_cons_self, ((lshown_ok x).2 t |>.mp h).1⟩
    · exact .inr ⟨s, List.mem_cons_of_mem _ h1, h2⟩
def spLShown (n : Nat) : Sp := fun vs H Q _ => ∃ (v : V) (s : Say), vs = [v] ∧ SayAt H s v ∧ s.ht < n ∧ s.ht ≤ 150 ∧ s.size ≤ 20000 ∧ ∀ (a : Addr) (ys : List V) (H' : Hp), Same H H' → H a = none → H' a = some (.lst ys) → SaysAt H' (lshown s) ys → Q (.ref a) H'
theorem q_isw {σ : L2.St} {H : Hp} {i : Nat} {s : Say} {v : V} {Q : Bool → Hp → Prop} (hσ : σ[i]? = some (some v)) (h : SayAt H s v) (q : Q s.isShown H) : tTest (tOp rEq (tOp (rIxT K) (tVar i) (tC (.int 0))) (tC (.str "shown"))) σ H Q := by
  refine q_is hσ h ?_
  rw [dec_isShown]; exact q
theorem cl_lshown (D : Df K mg "_law_shown" "_law_shown" "_law_shown" s_law_shown ["_law_saying"]) : ∀ n : Nat, Cl P w K mg base CX0 (n + 1) "_law_shown" (spLShown n)
  | 0 => D.no fun vs H Q E h => by
    obtain ⟨v, s, _, _, h, _⟩ := h
    omega
  | n + 1 => by
    have ih := cl_lshown D n
    refine D.ok c_law_shown (fun vs H Q E h => ?_) fun f cdv A outer s H vs Q E hr h => ?_
    · obtain ⟨v, s, rfl, _⟩ := h
      rfl
    obtain ⟨v, x, rfl, hx, hh, hh2, hz, k⟩ := h
    refine ⟨_, pss_cons (ps_if (PW.pt (pw_or (pt_cmpR op_eq (pe_ix ix_tup (pv 0) pe_int (fun _ _ => rfl)) pe_str (nomark _)) (pw_or1 (pt_cmpR op_eq (pe_ix ix_tup (pv 0) pe_int (fun _ _ => rfl)) pe_str (nomark _))))) (pss_one (ps_ret (pe_lst pa_nil))) pss_nil)
      (pss_cons (ps_set (i := 1) c_law_shown.nd rfl (Or.inr rfl) (pe_lst pa_nil))
      (pss_cons (ps_for PassesOwn.never rfl (pi_tup (pe_slice sl_tup (pv 0) (po_some pe_int) po_none)) (pg_name (i := 2) c_law_shown.nd rfl (Or.inl rfl))
        (pss_one (ps_set (i := 1) c_law_shown.nd rfl (Or.inr rfl) (pe_op op_cat (pv 1)
          (pe_lc (own := [("_law_one", 3)]) (g := gName 3) rfl c_law_shown.nd (pi_list (pe_c0 ih hr (by omega) (pa_cons (pv 2) pa_nil))) (blkOk_by (own := [("_law_one", 3)]) (N := ["_law_saying", "_law_found", "_law_part", "_law_one"]) (sc := defScope s_law_shown) (by decide +kernel))
            (fun _ _ _ _ _ => pg_name (i := 3) c_law_shown.nd rfl (Or.inl rfl)) (fun _ _ _ _ _ => pts_one (pt_cmpR (notInS K hr) (pv 3) (pv 1) rfl)) (fun _ _ _ _ _ => pv 3))))))
      (pss_cons (ps_if (PW.pt (pw_and (pt_cmpR op_eq (pe_ix ix_tup (pv 0) pe_int (fun _ _ => rfl)) pe_str (nomark _)) (pw_and1 (pt_cmpR (op_notInS hr) (pv 0) (pv 1) rfl))))
        (pss_one (ps_expr (pe_bm PySem.F.plainAttrs_list PySem.F.slot_list_append PySem.F.type_list_append mt_append (pv 1) (pa_cons (pv 0) pa_nil)))) pss_nil)
      (pss_one (ps_ret (pv 1)))))), ?_⟩
    have hs := Say.size_pos x
    refine q_leaf rfl hx (ite2 (fun c => ?_) fun c => ?_)
    · refine ⟨sz (n := 0) (by decide), fun L hL => k L [] _ (same_new hL _) hL upd_same ?_⟩
      have : lshown x = [] := by cases x <;> first | rfl | (simp [Say.leaf, Say.kids] at c)
      rw [this]; exact .nil
    have hl := Bool.eq_false_iff.mpr c
    obtain ⟨a, us, rfl, ha, hu⟩ := hx.kids hl
    refine ⟨sz (n := 0) (by decide), fun L0 hL0 => ?_⟩
    have g0 := same_new hL0 (.lst [])
    refine ⟨_, rfl, _, rfl, a, _, rfl, SqT.of (g0 _ _ ha), not_whole, fun q hq => ?_⟩
    rw [cut_rest]
    have g1 := g0.trans (same_new hq (.tup us))
    refine ⟨q, rfl, ⟨_, SqT.of upd_same⟩, ?_⟩
    have hlen := Paired.len hu
    have hk2 := kids_len x
    have hks := kids_sum x
    have nqL : q ≠ L0 := fun e => by rw [e, upd_same] at hq; cases hq
    refine for_tup (K := K) (a := q) (xs := us) (fun i σ H2 => ∃ (o : Option V) (L : Addr) (ws : List V), σ = [some (.ref a), some (.ref L), o, none] ∧ Same (upd (upd H L0 (.lst [])) q (.tup us)) H2 ∧ H L = none ∧ H2 L = some (.lst ws) ∧ SaysAt H2 (foldS (x.kids.take i)) ws)
      ⟨none, L0, [], rfl, Same.refl _, hL0, by rw [upd_ne nqL.symm]; exact upd_same, .nil⟩ (fun i σ H2 _ ⟨_, _, _, _, s2, _⟩ => SqT.of (s2 _ _ upd_same)) (fun i u σ H2 hi h => ?_) fun σ H2 h => ?_
    · obtain ⟨o, L, ws, rfl, s2, hL, hL2, hw⟩ := h
      have hil : i < x.kids.length := by rw [hlen]; exact (List.getElem?_eq_some_iff.mp hi).1
      have ht : x.kids[i]? = some x.kids[i] := List.getElem?_eq_getElem hil
      have tm := List.mem_of_getElem? ht
      have hth := kid_ht tm
      have htz := kid_size tm
      have hut : SayAt H2 x.kids[i] u := (paired_get hu i _ u ht hi).mono (g1.trans s2)
      have hfl : (foldS (x.kids.take i)).length ≤ x.size := by
        have h1 := foldS_len (x.kids.take i) []
        have h2 := take_sum (l := x.kids.map Say.size) (i := i) (x := x.kids[i].size) (by rw [List.getElem?_map, ht]; rfl)
        rw [← List.map_take] at h2
        rw [List.length_nil, Nat.zero_add] at h1
        unfold foldS
        omega
      have hwl := Paired.len hw
      refine ⟨_, rfl, _, rfl, u, x.kids[i], rfl, hut, by omega, by omega, by omega, fun p ys H3 s3 np hp hys => ?_⟩
      have hyl := Paired.len hys
      have hml : (lshown x.kids[i]).length ≤ x.kids[i].size := many_le _
      refine ⟨p, rfl, ⟨_, SqL.of hp⟩, fun D nD => ?_⟩
      refine lc_on (as := lshown x.kids[i]) (fun t => decide (t ∉ foldS (x.kids.take i))) (fun (t : Say) y H => SayAt H t y) (SqL.of hp) hyl (by omega) nD (fun t y H H' acc hD ex q => q.exc hD ex) (fun j t z H4 acc C C' htj hv s4 hD hC hC' => ?_) fun zs H4 s4 hD hy => ?_
      · have htu := (paired_get hys j t z htj hv).mono s4
        have tin := List.mem_of_getElem? htj
        have thh := Say.part_ht (((lshown_ok _).2 t).mp tin).1
        refine ⟨rfl, _, rfl, _, rfl, t, L, ws, foldS (x.kids.take i), htu, rfl, SqL.of (s4 _ _ (s3 _ _ hL2)), hw.mono (s3.trans s4), by omega, _, rfl, ?_⟩
        refine ite2 (fun c => ⟨_, rfl, hC (by simpa using c) _ _ (Same.refl _) htu⟩) fun c => hC' (by simpa using c) _ (Same.refl _)
      · have hzl := Paired.len hy
        have hfl2 := List.length_filter_le (fun t => decide (t ∉ foldS (x.kids.take i))) (lshown x.kids[i])
        refine ⟨L, D, ws, zs, rfl, rfl, s4 _ _ (s3 _ _ hL2), hD, szm (by omega), fun m nm => ?_⟩
        have g5 := same_new nm (.lst (ws ++ zs))
        have gg := (s3.trans s4).trans g5
        refine ⟨some u, m, ws ++ zs, rfl, s2.trans gg, g1.free (s2.free (s3.free (s4.free nm))), upd_same, ?_⟩
        rw [take_snoc ht, foldS_snoc]
        exact paired_app (hw.mono gg) (SaysAt.mono g5 hy)
    · obtain ⟨o, L, ws, rfl, s2, hL, hL2, hw⟩ := h
      rw [List.take_of_length_le (by omega)] at hw
      have hx2 := hx.mono (g1.trans s2)
      have hfl : (foldS x.kids).length ≤ x.size := by
        have h1 := foldS_len x.kids []
        rw [List.length_nil, Nat.zero_add] at h1
        unfold foldS
        omega
      have hwl := Paired.len hw
      have e := lshown_kids hl
      have no : ¬ (x.isShown = true ∧ x ∉ foldS x.kids) → Q (.ref L) H2 := fun c => by
        rw [if_neg c] at e
        exact k L ws H2 (g1.trans s2) hL hL2 (by rw [e]; exact hw)
      refine q_isw rfl hx2 (ite2 (fun c1 => ?_) fun c1 => ?_)
      · refine ⟨_, rfl, _, rfl, x, L, ws, foldS x.kids, hx2, rfl, SqL.of hL2, hw, by omega, _, rfl, ?_⟩
        refine ite2 (fun c2 => ?_) fun c2 => ⟨_, rfl, no fun z => c2 (by simpa using z.2)⟩
        refine ⟨_, rfl, .inl ⟨rfl, _, SqL.of hL2⟩, _, rfl, L, ws, _, rfl, rfl, hL2, szml (by omega), _, rfl, ?_⟩
        rw [if_pos ⟨c1, by simpa using c2⟩] at e
        have ex : Exc L H2 (upd H2 L (.lst (ws ++ [.ref a]))) := fun b o hb q => by rw [upd_ne hb]; exact q
        refine k L _ _ (fun b o q => ex _ _ (ne_of_none q hL) (s2 _ _ (g1 _ _ q))) hL upd_same ?_
        rw [e]
        exact paired_snoc (hx2.exc hL2 ex) (SaysAt.exc hL2 ex hw)
      · refine ite2 (fun z => absurd z (by simp)) fun _ => ⟨_, rfl, no fun z => c1 z.1⟩
end
end SD
namespace SD
open PySem PySem.Spec PyProof.Rows L2 SX
section
variable {P : Program} {w : World} {K : PySem.W.Frag} {mg : Str → Option Value} {base : Heap}
/-! # the law's text and put -/
def signKs : List (Key × V) := [(Sum.inr "and", .str "&"), (Sum.inr "or", .str "|"), (Sum.inr "if", .str ">")]
theorem sign_val (o : Op) : valV (mergeK [] signKs) (Sum.inr o.word) = some (.str (S [o.sign])) := by cases o <;> decide +kernel
theorem cl_ltext (D : Df K mg "_law_text" "_law_text" "_law_text" s_law_text ["_law_saying"]) : ∀ n : Nat, Cl P w K mg base CX0 (n + 1) "_law_text" (spText n)
  | 0 => D.no fun vs H Q E h => by
    obtain ⟨v, s, _, _, h, _⟩ := h
    omega
  | n + 1 => by
    have ih := cl_ltext D n
    refine D.ok c_law_text (fun vs H Q E h => ?_) fun f cdv A outer s H vs Q E hr h => ?_
    · obtain ⟨v, s, rfl, _⟩ := h
      rfl
    obtain ⟨v, x, rfl, hx, hh, hz, k⟩ := h
    have hu := hu_of hr
    refine ⟨_, pss_cons (ps_set (i := 1) c_law_text.nd rfl (Or.inl rfl) (pe_ix ix_tup (pv 0) pe_int (fun _ _ => rfl)))
      (pss_cons (ps_if (pt_cmpR op_eq (pv 1) pe_str (nomark _)) (pss_one (ps_ret pe_str)) pss_nil)
      (pss_cons (ps_if (pt_cmpR op_eq (pv 1) pe_str (nomark _)) (pss_one (ps_ret (pe_ix ix_tup (pv 0) pe_int (fun _ _ => rfl)))) pss_nil)
      (pss_cons (ps_if (pt_cmpR op_eq (pv 1) pe_str (nomark _)) (pss_one (ps_ret (pe_op op_add_str pe_str (pe_c0 ih hr (by omega) (pa_cons (pe_ix ix_tup (pv 0) pe_int (fun _ _ => rfl)) pa_nil))))) pss_nil)
      (pss_cons (ps_if (pt_cmpR op_eq (pv 1) pe_str (nomark _)) (pss_one (ps_ret (pe_op op_add_str (pe_op op_add_str pe_str (pe_c0 ih hr (by omega) (pa_cons (pe_ix ix_tup (pv 0) pe_int (fun _ _ => rfl)) pa_nil))) pe_str))) pss_nil)
      (pss_cons (ps_set (i := 2) c_law_text.nd rfl (Or.inl rfl) (pe_dget hu (pe_disp (pps_cons pe_str pe_str (pps_cons pe_str pe_str (pps_cons pe_str pe_str pps_nil))) rfl rfl (by simp) (by simp)) (pv 1) (fun _ _ => rfl)))
      (pss_one (ps_ret (pe_op op_add_str (pe_op op_add_str (pe_op op_add_str (pe_op op_add_str pe_str (pe_c0 ih hr (by omega) (pa_cons (pe_ix ix_tup (pv 0) pe_int (fun _ _ => rfl)) pa_nil)))
        (pv 2)) (pe_c0 ih hr (by omega) (pa_cons (pe_ix ix_tup (pv 0) pe_int (fun _ _ => rfl)) pa_nil))) pe_str)))))))), ?_⟩
    refine q_word rfl hx ?_
    have e2 := fun z => k z
    refine q_slot rfl (ite2 (fun c1 => ?_) fun c1 => ?_)
    · have e := word_no.mp (of_decide_eq_true c1)
      subst e
      show Q (.str "0") H
      rw [S_lit.1.1]
      exact k H (Same.refl _)
    refine q_slot rfl (ite2 (fun c2 => ?_) fun c2 => ?_)
    · have e := word_letter.mp (of_decide_eq_true c2)
      cases x <;> simp [Say.isLetter] at e
      obtain ⟨a, rfl, ha⟩ := id hx
      exact q_ix rfl ha at1 (k H (Same.refl _))
    refine q_slot rfl (ite2 (fun c3 => ?_) fun c3 => ?_)
    · obtain ⟨y, rfl⟩ := word_not.mp (of_decide_eq_true c3)
      obtain ⟨a, u, rfl, ha, hu⟩ := id hx
      have hl := (Say.text_len y).1
      simp only [Say.ht] at hh
      simp only [Say.size] at hz
      refine q_ix rfl ha at1 ⟨u, y, rfl, hu, by omega, by omega, fun H1 g1 => ?_⟩
      refine ⟨_, _, rfl, rfl, ?_, ?_⟩
      · rw [S_lit.1.2.1, S_length, S_length]; exact szm (by simp; omega)
      · rw [S_lit.1.2.1, S_cat]; exact k H1 g1
    refine q_slot rfl (ite2 (fun c4 => ?_) fun c4 => ?_)
    · have e := word_shown.mp (of_decide_eq_true c4)
      cases x <;> simp [Say.isShown] at e
      rename_i y
      obtain ⟨a, u, rfl, ha, hu⟩ := id hx
      have hl := (Say.text_len y).1
      simp only [Say.ht] at hh
      simp only [Say.size] at hz
      refine q_ix rfl ha at1 ⟨u, y, rfl, hu, by omega, by omega, fun H1 g1 => ?_⟩
      refine ⟨_, _, rfl, rfl, ?_, _, _, rfl, rfl, ?_, ?_⟩
      · rw [S_lit.1.2.2.1, S_length, S_length]; exact szm (by simp; omega)
      · rw [S_lit.1.2.2.1, S_lit.1.2.2.2, S_cat, S_length, S_length]; exact szm (by simp; omega)
      · rw [S_lit.1.2.2.1, S_lit.1.2.2.2, S_cat, S_cat]; exact k H1 g1
    cases x with
    | no => exact absurd (decide_eq_true rfl) c1
    | letter => exact absurd (decide_eq_true rfl) c2
    | neg => exact absurd (decide_eq_true rfl) c3
    | shown => exact absurd (decide_eq_true rfl) c4
    | bin o y z =>
      refine fun p hp => ⟨upd_same, signKs, rfl, by decide, _, rfl, p, .str (S [o.sign]), rfl, .inl ⟨_, Sum.inr o.word, .inl upd_same, rfl, (sign_val o).symm⟩, ?_⟩
      have g0 : Same H (upd (upd H p (.dK [])) p (.dK (mergeK [] signKs))) := fun b o q => by
        have := ne_of_none q hp
        rw [upd_ne this, upd_ne this]; exact q
      have hx0 := hx.mono g0
      obtain ⟨a, u, u', rfl, ha, hu, hu'⟩ := id hx0
      have hl := (Say.text_len y).1
      have hl' := (Say.text_len z).1
      simp only [Say.ht] at hh
      simp only [Say.size] at hz
      refine q_ix rfl ha at1 ⟨u, y, rfl, hu, by omega, by omega, fun H1 g1 => ?_⟩
      rw [S_lit.2.1, S_lit.2.2.1]
      refine ⟨_, _, rfl, rfl, ?_, ?_⟩
      · rw [S_length, S_length]; exact szm (by simp; omega)
      rw [S_cat]
      refine ⟨_, rfl, _, _, rfl, rfl, ?_, ?_⟩
      · rw [S_length, S_length]; exact szm (by simp; omega)
      rw [S_cat]
      refine q_ix rfl (g1 _ _ ha) at2 ⟨u', z, rfl, hu'.mono g1, by omega, by omega, fun H2 g2 => ?_⟩
      refine ⟨_, _, rfl, rfl, ?_, _, _, rfl, rfl, ?_, ?_⟩
      · rw [S_length, S_length]; exact szm (by simp; omega)
      · rw [S_cat, S_length, S_length]; exact szm (by simp; omega)
      · rw [S_cat, S_cat]
        have q := k H2 (g0.trans (g1.trans g2))
        simp only [Say.text] at q
        simpa using q
def spLPut (n : Nat) : Sp := fun vs H Q _ => ∃ (v u : V) (s t : Say) (c : Ltr), vs = [v, .str c.str, u] ∧ SayAt H s v ∧ SayAt H t u ∧ s.ht < n ∧ ∀ (z : V) (H' : Hp), Same H H' → SayAt H' (s.put c t) z → Q z H'
theorem cl_lput (D : Df K mg "_law_put" "_law_put" "_law_put" s_law_put ["_law_saying", "_law_letter", "_law_other"]) (T : Tx mg) : ∀ n : Nat, Cl P w K mg base CX0 (n + 1) "_law_put" (spLPut n)
  | 0 => D.no fun vs H Q E h => by
    obtain ⟨v, u, s, t, c, _, _, _, h, _⟩ := h
    omega
  | n + 1 => by
    have ih := cl_lput D T n
    refine D.ok c_law_put (fun vs H Q E h => ?_) fun f cdv A outer s H vs Q E hr h => ?_
    · obtain ⟨v, u, s, t, c, rfl, _⟩ := h
      rfl
    obtain ⟨v, u, x, t, c, rfl, hx, ht, hh, k⟩ := h
    refine ⟨_, pss_cons (ps_if (pt_cmpR op_eq (pe_ix ix_tup (pv 0) pe_int (fun _ _ => rfl)) pe_str (nomark _))
        (pss_cons (ps_if (pt_cmpR op_eq (pe_ix ix_tup (pv 0) pe_int (fun _ _ => rfl)) (pv 1) (nomark _)) (pss_one (ps_ret (pv 2))) pss_nil) (pss_one (ps_ret (pv 0)))) pss_nil)
      (pss_one (ps_ret (pe_op op_catA (pe_tup (pa_cons (pe_ix ix_tup (pv 0) pe_int (fun _ _ => rfl)) pa_nil)) (pe_callTy call_tuple_of rfl T.tuple (by decide +kernel) (pa_cons
        (pe_lc (own := [("_law_part", 3)]) (g := gName 3) rfl c_law_put.nd (pi_tup (pe_slice sl_tup (pv 0) (po_some pe_int) po_none)) (blkOk_by (own := [("_law_part", 3)]) (N := ["_law_saying", "_law_letter", "_law_other", "_law_part"]) (sc := defScope s_law_put) (by decide +kernel))
          (fun _ _ _ _ _ => pg_name (i := 3) c_law_put.nd rfl (Or.inl rfl)) (fun _ _ _ _ _ => pts_nil) (fun _ _ _ _ _ => pe_c0 ih hr (by omega) (pa_cons (pv 3) (pa_cons (pv 1) (pa_cons (pv 2) pa_nil))))) pa_nil))))), ?_⟩
    refine q_is rfl hx (ite2 (fun c2 => ?_) fun c2 => ?_)
    · have e := word_letter.mp (of_decide_eq_true c2)
      cases x <;> simp [Say.isLetter] at e
      rename_i l
      obtain ⟨a, rfl, ha⟩ := id hx
      refine q_ix rfl ha at1 ⟨_, rfl, rfl, _, rfl, ?_⟩
      have e3 : decide (V.str l.str = V.str c.str) = decide (l = c) := decide_eq_decide.mpr ⟨fun e => by injection e with e; exact lstr_inj e, fun e => by rw [e]⟩
      rw [e3]
      have e2 := fun z h => k z H (Same.refl _) h
      simp only [Say.put] at e2
      refine ite2 (fun c => ?_) fun c => ?_
      · rw [if_pos (of_decide_eq_true c)] at e2; exact ⟨_, rfl, e2 _ ht⟩
      · rw [if_neg (fun z => c (decide_eq_true z))] at e2; exact ⟨_, rfl, e2 _ hx⟩
    obtain ⟨a, r, rfl, ha, hr2⟩ := hx.tup
    have hus : SaysAt H x.kids r := by cases x <;> first | exact hr2 | exact absurd (decide_eq_true rfl) c2
    refine q_ix rfl ha at0 ⟨sz (n := 1) (by decide), fun l nl => ?_⟩
    have g1 := same_new nl (.tup [.str x.word])
    refine ⟨_, rfl, _, rfl, a, _, rfl, SqT.of (g1 _ _ ha), not_whole, fun q nq => ?_⟩
    rw [cut_rest]
    have g2 := same_new nq (.tup r)
    refine ⟨q, rfl, ⟨_, SqT.of upd_same⟩, fun D nD => ?_⟩
    have hlen := Paired.len hus
    have g12 := g1.trans g2
    refine lc_onT (as := x.kids) (fun _ => true) (fun (s : Say) y H => SayAt H (s.put c t) y) (SqT.of upd_same) hlen (by have := kids_len x; omega) nD (fun t y H H' acc hD ex q => q.exc hD ex) (fun j s z H2 acc C C' hs hz s1 hD hC _ => ?_) fun ys H2 s1 hD hy => ?_
    · refine ⟨rfl, q_yes _ _ ?_⟩
      have tm := List.mem_of_getElem? hs
      have := kid_ht tm
      exact ⟨_, rfl, _, rfl, _, rfl, z, u, s, t, c, rfl, (paired_get hus j s z hs hz).mono (g12.trans s1), ht.mono (g12.trans s1), by omega, fun z' H3 g3 h3 => hC rfl _ _ g3 h3⟩
    · rw [filter_true] at hy
      have hyl := Paired.len hy
      have hk := kids_len x
      refine ⟨D, _, rfl, .inl ⟨SqL.of hD, fun m nm => ?_⟩⟩
      have g3 := same_new nm (.tup ys)
      have gg := g12.trans (s1.trans g3)
      refine ⟨l, m, [.str x.word], ys, rfl, rfl, SqT.of (g3 _ _ (s1 _ _ (g2 _ _ upd_same))), SqT.of upd_same, sz (n := 1 + ys.length) (by omega), fun z => by simp at z, fun _ hy0 => ?_, fun _ hy0 p np => ?_⟩
      · have hk0 : x.kids = [] := List.eq_nil_of_length_eq_zero (by rw [hyl, hy0]; rfl)
        have e : x = .no := by
          cases x <;> first | rfl | exact absurd (decide_eq_true rfl) c2 | (simp [Say.kids] at hk0)
        subst e
        exact k _ _ gg ⟨l, rfl, g3 _ _ (s1 _ _ (g2 _ _ upd_same))⟩
      · have hl : x.leaf = false := by
          have hyne : ys.length ≠ 0 := fun e => hy0 (List.eq_nil_of_length_eq_zero e)
          cases x <;> first | rfl | exact absurd hyl.symm hyne | exact absurd (decide_eq_true rfl) c2
        obtain ⟨e1, e2, e3⟩ := kids_put x c t hl
        have g4 := same_new np (.tup ([.str x.word] ++ ys))
        refine k _ _ (gg.trans g4) (say_mk e3 (us := ys) ?_ ?_)
        · rw [e2]; exact upd_same
        · rw [e1]
          have : ∀ {l : List Say} {m : List V}, Paired (fun s y => SayAt H2 (s.put c t) y) l m → SaysAt H2 (l.map fun s => s.put c t) m := fun h => paired_map (f := fun s : Say => s.put c t) (G := SayAt H2) (fun _ _ q => q) h
          exact (this hy).mono (g3.trans g4)
end
end SD
namespace SD
open PySem PySem.Spec PyProof.Rows L2 SX
theorem atI_int {ns : List Int} {i : Int} (h0 : 0 ≤ i) (h1 : i < ns.length) : ∃ z, atI (ns.map V.int) i = some (.int z) := by
  obtain ⟨j, rfl⟩ := Int.eq_ofNat_of_zero_le h0
  have hj : j < ns.length := by omega
  exact ⟨ns[j], atI_nat (by rw [List.getElem?_map, List.getElem?_eq_getElem hj]; rfl)⟩
section
variable {P : Program} {w : World} {K : PySem.W.Frag} {mg : Str → Option Value} {base : Heap}
/-! # numbers out of the script -/
def spMix : Sp := fun vs H Q _ => ∃ (a : Addr) (ns : List Int) (k : Nat), vs = [.ref a, .int k] ∧ SqL K H a (ns.map V.int) ∧ ns.length ≤ 1000 ∧ k ≤ 1000 ∧ ∀ i, Q (.int i) H
theorem p9 : CPow 10 9 := by refine ⟨by decide, by decide, by decide⟩
theorem d9 (i : Int) : CDivW i ((10 : Int) ^ (9 : Int).toNat) := by refine ⟨by decide, by decide +kernel⟩
theorem p12 : CPow 10 12 := by refine ⟨by decide, by decide, by decide⟩
theorem p60 : CPow 10 60 := by refine ⟨by decide, by decide, by decide⟩
theorem mulR {i j : Int} (h : -(2 ^ 64) < j ∧ j < 2 ^ 64) : CMul i j := .inr h
theorem mulL {i j : Int} (h : -(2 ^ 64) < i ∧ i < 2 ^ 64) : CMul i j := .inl h
theorem cl_mix (D : Df K mg "_law_mix" "_law_mix" "_law_mix" s_law_mix ["_law_script", "_law_k"]) (T : Tx mg) : Cl P w K mg base CX0 1 "_law_mix" (spMix (K := K)) := by
  refine D.ok c_law_mix (fun vs H Q E h => ?_) fun f cdv A outer s H vs Q E hr h => ?_
  · obtain ⟨a, ns, k, rfl, _⟩ := h
    rfl
  obtain ⟨a, ns, k, rfl, hS, hn, hk, q⟩ := h
  refine ⟨_, pss_cons (ps_if (PW.pt (pw_and (pt_cmpR op_gt (pe_callB call_len_seq rfl T.len PySem.boot_len (pa_cons (pv 0) pa_nil)) pe_int (nomark _)) (pw_and1 (pt_cmpR op_eq (pe_op op_mod (pe_ix ix_list (pv 0) pe_int (fun _ _ => rfl)) pe_int) pe_int (nomark _)))))
      (pss_cons (ps_set (i := 3) c_law_mix.nd rfl (Or.inl rfl) (pe_ix ix_list (pv 0) (pe_op op_add pe_int (pe_op op_mod (pv 1) (pe_op op_sub (pe_callB call_len_seq rfl T.len PySem.boot_len (pa_cons (pv 0) pa_nil)) pe_int))) (fun _ _ => rfl)))
      (pss_cons (ps_for PassesOwn.never rfl (pi_range1 rfl T.range (pa_cons (pe_callB (call_min2 rfl) rfl T.min (by decide +kernel) (pa_cons pe_int (pa_cons (pe_op op_fdiv (pv 1) (pe_op op_sub (pe_callB call_len_seq rfl T.len PySem.boot_len (pa_cons (pv 0) pa_nil)) pe_int)) pa_nil))) pa_nil)) (pg_name (i := 4) c_law_mix.nd rfl (Or.inl rfl))
        (pss_one (ps_set (i := 3) c_law_mix.nd rfl (Or.inl rfl) (pe_op op_fdivW (pv 3) (pe_op op_pow pe_int pe_int)))))
      (pss_one (ps_ret (pe_op op_mod (pv 3) (pe_op op_pow pe_int pe_int)))))) pss_nil)
    (pss_cons (ps_set (i := 2) c_law_mix.nd rfl (Or.inl rfl) (pv 1))
    (pss_cons (ps_if (pt_cmpR op_gt (pe_callB call_len_seq rfl T.len PySem.boot_len (pa_cons (pv 0) pa_nil)) pe_int (nomark _)) (pss_one (ps_set (i := 2) c_law_mix.nd rfl (Or.inl rfl) (pe_ix ix_list (pv 0) (pe_op op_mod (pv 1) (pe_callB call_len_seq rfl T.len PySem.boot_len (pa_cons (pv 0) pa_nil))) (fun _ _ => rfl)))) pss_nil)
    (pss_one (ps_ret (pe_op op_mod (pe_op op_mul (pe_op op_mod (pe_op op_mul (pe_op op_add (pe_op op_add (pe_op op_mod (pv 2) (pe_op op_pow pe_int pe_int)) (pe_op op_mul (pe_op op_mul pe_int (pv 1)) (pv 1))) pe_int) pe_int) pe_int) pe_int) pe_int))))), ?_⟩
  have hlen : (ns.map V.int).length = ns.length := List.length_map ..
  have fin : ∀ (o3 o4 : Option V) (g : Int), (tRet (tOp (rI (fun _ j => 0 < j) fun i j => .int (i % j)) (tOp (rI CMul fun i j => .int (i * j)) (tOp (rI (fun _ j => 0 < j) fun i j => .int (i % j)) (tOp (rI CMul fun i j => .int (i * j))
      (tOp (rI0 fun i j => .int (i + j)) (tOp (rI0 fun i j => .int (i + j)) (tOp (rI (fun _ j => 0 < j) fun i j => .int (i % j)) (tVar 2) (tOp (rI CPow fun i j => .int (i ^ j.toNat)) (tC (.int 10)) (tC (.int 12)))) (tOp (rI CMul fun i j => .int (i * j)) (tOp (rI CMul fun i j => .int (i * j)) (tC (.int 7)) (tVar 1)) (tVar 1))) (tC (.int 11))) (tC (.int 48271))) (tC (.int 2147483647))) (tC (.int 69621))) (tC (.int 1000000007))))
      { nx := fun _ H' => Q .non H', rt := Q } [some (.ref a), some (.int k), some (.int g), o3, o4] H := by
    intro o3 o4 g
    refine ⟨_, rfl, _, _, rfl, rfl, p12, _, _, rfl, rfl, (by show (0:Int) < _; decide), _, rfl, _, _, rfl, rfl, mulL (by decide), _, rfl, _, _, rfl, rfl, mulR (by omega), _, _, rfl, rfl, _, _, rfl, rfl, _, _, rfl, rfl, mulR (by decide), _, _, rfl, rfl, (by show (0:Int) < _; decide), _, _, rfl, rfl, mulR (by decide), _, _, rfl, rfl, (by show (0:Int) < _; decide), ?_⟩
    exact q _
  have rest : ∀ o3 o4 : Option V, tSeq (tAsg (tVar 1) (gName 2)) (tSeq (tIfS (tTest (tOp (rI0 fun i j => .bl (decide (i > j))) (tCB (fun xs H Q => ∃ p ys, xs = [.ref p] ∧ (SqL K H p ys ∨ SqT K H p ys) ∧ Q (.int ys.length) H) (tCons (tVar 0) tNil)) (tC (.int 0)))) (tAsg (tOp (rIxL K) (tVar 0) (tOp (rI (fun _ j => 0 < j) fun i j => .int (i % j)) (tVar 1) (tCB (fun xs H Q => ∃ p ys, xs = [.ref p] ∧ (SqL K H p ys ∨ SqT K H p ys) ∧ Q (.int ys.length) H) (tCons (tVar 0) tNil)))) (gName 2)) tNext) (tRet (tOp (rI (fun _ j => 0 < j) fun i j => .int (i % j)) (tOp (rI CMul fun i j => .int (i * j)) (tOp (rI (fun _ j => 0 < j) fun i j => .int (i % j)) (tOp (rI CMul fun i j => .int (i * j))
      (tOp (rI0 fun i j => .int (i + j)) (tOp (rI0 fun i j => .int (i + j)) (tOp (rI (fun _ j => 0 < j) fun i j => .int (i % j)) (tVar 2) (tOp (rI CPow fun i j => .int (i ^ j.toNat)) (tC (.int 10)) (tC (.int 12)))) (tOp (rI CMul fun i j => .int (i * j)) (tOp (rI CMul fun i j => .int (i * j)) (tC (.int 7)) (tVar 1)) (tVar 1))) (tC (.int 11))) (tC (.int 48271))) (tC (.int 2147483647))) (tC (.int 69621))) (tC (.int 1000000007)))))
      { nx := fun _ H' => Q .non H', rt := Q } [some (.ref a), some (.int k), none, o3, o4] H := by
    intro o3 o4
    refine ⟨_, rfl, _, rfl, _, _, rfl, .inl hS, _, _, rfl, rfl, _, rfl, ite2 (fun c => ?_) fun c => fin _ _ _⟩
    have c' : ((ns.map V.int).length : Int) > 0 := of_decide_eq_true c
    obtain ⟨z, hz⟩ := atI_int (ns := ns) (i := (k : Int) % ((ns.map V.int).length : Int)) (Int.emod_nonneg _ (by omega)) (by rw [← hlen]; exact Int.emod_lt_of_pos _ c')
    exact ⟨_, rfl, _, rfl, _, rfl, _, _, rfl, .inl hS, _, _, rfl, rfl, c', a, _, _, _, rfl, rfl, hS, hz, fin _ _ _⟩
  refine ⟨_, rfl, _, _, rfl, .inl hS, _, _, rfl, rfl, _, rfl, ite2 (fun c => ?_) fun c => ?_⟩
  · have c' : ((ns.map V.int).length : Int) > 1 := of_decide_eq_true c
    obtain ⟨z0, hz0⟩ := atI_int (ns := ns) (i := 0) (by omega) (by omega)
    refine ⟨_, rfl, a, _, _, _, rfl, rfl, hS, hz0, _, _, rfl, rfl, (by show (0:Int) < _; decide), rfl, _, rfl, ite2 (fun c2 => ?_) fun _ => rest _ _⟩
    have m0 := Int.emod_nonneg (k : Int) (b := ((ns.map V.int).length : Int) - 1) (by omega)
    have m1 := Int.emod_lt_of_pos (k : Int) (b := ((ns.map V.int).length : Int) - 1) (by omega)
    obtain ⟨z, hz⟩ := atI_int (ns := ns) (i := 1 + (k : Int) % (((ns.map V.int).length : Int) - 1)) (by omega) (by omega)
    refine ⟨_, rfl, _, rfl, _, rfl, _, _, rfl, .inl hS, _, _, rfl, rfl, _, _, rfl, rfl, by omega, _, _, rfl, rfl, a, _, _, _, rfl, rfl, hS, hz, ?_⟩
    refine ⟨_, rfl, _, rfl, _, _, rfl, .inl hS, _, _, rfl, rfl, _, _, rfl, rfl, ⟨by omega, by omega⟩, _, _, rfl, _, rfl, ?_, ?_, ?_⟩
    · have := Int.ediv_nonneg (a := (k : Int)) (b := ((ns.map V.int).length : Int) - 1) (by omega) (by omega)
      split <;> omega
    · split <;> omega
    refine for_range (fun _ σ H2 => ∃ (c : Int) (o : Option V), σ = [some (.ref a), some (.int k), none, some (.int c), o] ∧ H2 = H) ⟨_, none, rfl, rfl⟩ (fun i σ H2 _ h => ?_) fun σ H2 h => ?_
    · obtain ⟨c, o, rfl, rfl⟩ := h
      exact ⟨_, rfl, _, _, rfl, rfl, p9, _, _, rfl, rfl, d9 _, _, _, rfl, rfl⟩
    · obtain ⟨c, o, rfl, rfl⟩ := h
      exact ⟨_, rfl, _, _, rfl, rfl, p9, _, _, rfl, rfl, (by show (0:Int) < _; decide), q _⟩
  · exact ite2 (fun z => absurd z (by simp)) fun _ => rest _ _
end
end SD
namespace SD
open PySem PySem.Spec PyProof.Rows L2 SX
theorem atI_lt {α : Type} {l : List α} {i : Int} (h0 : 0 ≤ i) (h1 : i < l.length) : ∃ x ∈ l, atI l i = some x := by
  obtain ⟨j, rfl⟩ := Int.eq_ofNat_of_zero_le h0
  have hj : j < l.length := by omega
  exact ⟨l[j], List.getElem_mem hj, atI_nat (List.getElem?_eq_getElem hj)⟩
section
variable {P : Program} {w : World} {K : PySem.W.Frag} {mg : Str → Option Value} {base : Heap}
/-! # sayings out of numbers -/
/-- the text of these letters -/
abbrev LsT (ls : List Ltr) : Str := S (ls.map Ltr.code)
def spLeaf : Sp := fun vs H Q _ => ∃ (i : Int) (ls : List Ltr), vs = [.int i, .str (LsT ls)] ∧ ls ≠ [] ∧ ls.length ≤ 3 ∧ ∀ (v : V) (s : Say) (H' : Hp), Same H H' → SayAt H' s v → s.size = 1 → Q v H'
theorem cl_leaf (D : Df K mg "_law_leaf" "_law_leaf" "_law_leaf" s_law_leaf ["_law_cell", "_law_letters_here"]) (T : Tx mg) : Cl P w K mg base CX0 1 "_law_leaf" spLeaf := by
  refine D.ok c_law_leaf (fun vs H Q E h => ?_) fun f cdv A outer s H vs Q E hr h => ?_
  · obtain ⟨i, ls, rfl, _⟩ := h
    rfl
  obtain ⟨i, ls, rfl, hne, hl3, k⟩ := h
  refine ⟨_, pss_cons (ps_if (pt_cmpR op_eq (pe_op op_mod (pv 0) pe_int) pe_int (nomark _)) (pss_one (ps_ret (pe_tup (pa_cons pe_str pa_nil)))) pss_nil)
    (pss_one (ps_ret (pe_tup (pa_cons pe_str (pa_cons (pe_ix ix_str (pv 1) (pe_op op_mod (pv 0) (pe_callB call_len_str rfl T.len PySem.boot_len (pa_cons (pv 1) pa_nil))) (fun _ _ => rfl)) pa_nil))))), ?_⟩
  refine ⟨_, rfl, _, _, rfl, rfl, (by show (0:Int) < _; decide), rfl, _, rfl, ite2 (fun _ => ?_) fun _ => ?_⟩
  · refine ⟨sz (n := 1) (by decide), fun a na => k _ .no _ (same_new na _) ⟨a, rfl, upd_same⟩ rfl⟩
  · have hlen : (LsT ls).length = ls.length := by rw [S_length, List.length_map]
    have hpos := List.length_pos_iff.mpr hne
    obtain ⟨c, hc, e⟩ := atI_lt (l := ls.map Ltr.code) (i := i % ((LsT ls).length : Int)) (Int.emod_nonneg _ (by omega)) (by rw [List.length_map, ← hlen]; exact Int.emod_lt_of_pos _ (by omega))
    obtain ⟨l, _, rfl⟩ := List.mem_map.mp hc
    refine ⟨_, rfl, _, rfl, _, rfl, _, rfl, sz (n := (LsT ls).length) (by omega), _, _, rfl, rfl, (by show (0:Int) < _; omega), _, _, l.code, rfl, rfl, sz (n := (LsT ls).length) (by omega), e, sz (n := 2) (by decide), fun a na => ?_⟩
    exact k _ (.letter l) _ (same_new na _) ⟨a, rfl, upd_same⟩ rfl
def spJoined : Sp := fun vs H Q _ => ∃ (i : Int) (v u : V) (s t : Say), vs = [v, u, .int i] ∧ SayAt H s v ∧ SayAt H t u ∧ ∀ (z : V) (r : Say) (H' : Hp), Same H H' → SayAt H' r z → r.size ≤ s.size + t.size + 2 → Q z H'
theorem cl_ljoined (D : Df K mg "_law_joined" "_law_joined" "_law_joined" s_law_joined ["_law_made", "_law_other", "_law_word"]) : Cl P w K mg base CX0 1 "_law_joined" spJoined := by
  refine D.ok c_law_joined (fun vs H Q E h => ?_) fun f cdv A outer s H vs Q E hr h => ?_
  · obtain ⟨i, v, u, s, t, rfl, _⟩ := h
    rfl
  obtain ⟨i, v, u, x, y, rfl, hx, hy, k⟩ := h
  refine ⟨_, pss_cons (ps_if (pt_cmpR op_eq (pv 2) pe_int (nomark _)) (pss_one (ps_ret (pe_tup (pa_cons pe_str (pa_cons (pv 0) pa_nil))))) pss_nil)
    (pss_cons (ps_if (pt_cmpR op_lt (pv 2) pe_int (nomark _)) (pss_one (ps_ret (pe_tup (pa_cons pe_str (pa_cons (pv 0) pa_nil))))) pss_nil)
    (pss_cons (ps_if (pt_cmpR op_eq (pv 2) pe_int (nomark _)) (pss_one (ps_ret (pe_tup (pa_cons pe_str (pa_cons (pv 0) (pa_cons (pv 1) pa_nil)))))) pss_nil)
    (pss_cons (ps_if (pt_cmpR op_eq (pv 2) pe_int (nomark _)) (pss_one (ps_ret (pe_tup (pa_cons pe_str (pa_cons (pv 1) (pa_cons (pv 0) pa_nil)))))) pss_nil)
    (pss_cons (ps_if (pt_cmpR op_eq (pv 2) pe_int (nomark _)) (pss_one (ps_ret (pe_tup (pa_cons pe_str (pa_cons (pv 0) (pa_cons (pv 1) pa_nil)))))) pss_nil)
    (pss_cons (ps_if (pt_cmpR op_eq (pv 2) pe_int (nomark _)) (pss_one (ps_ret (pe_tup (pa_cons pe_str (pa_cons (pv 1) (pa_cons (pv 0) pa_nil)))))) pss_nil)
    (pss_one (ps_ret (pe_tup (pa_cons pe_str (pa_cons (pe_tup (pa_cons pe_str (pa_cons (pv 0) pa_nil))) (pa_cons (pv 1) pa_nil))))))))))), ?_⟩
  have two : ∀ {wd : Str} {a b : V} {s t : Say} {o : Op}, o.word = wd → SayAt H s a → SayAt H t b → (∀ p, H p = none → SayAt (upd H p (.tup [.str wd, a, b])) (.bin o s t) (.ref p)) := fun {wd a b s t o} e h1 h2 p np => by
    subst e
    exact ⟨p, a, b, rfl, upd_same, h1.mono (same_new np _), h2.mono (same_new np _)⟩
  refine ⟨_, rfl, rfl, _, rfl, ite2 (fun _ => ⟨_, rfl, sz (n := 2) (by decide), fun p np => ?_⟩) fun _ => ?_⟩
  · exact k _ (.neg x) _ (same_new np _) ⟨p, _, rfl, upd_same, hx.mono (same_new np _)⟩ (by simp [Say.size]; omega)
  refine ⟨_, rfl, _, _, rfl, rfl, _, rfl, ite2 (fun _ => ⟨_, rfl, sz (n := 2) (by decide), fun p np => ?_⟩) fun _ => ?_⟩
  · exact k _ (.shown x) _ (same_new np _) ⟨p, _, rfl, upd_same, hx.mono (same_new np _)⟩ (by simp [Say.size]; omega)
  refine ⟨_, rfl, rfl, _, rfl, ite2 (fun _ => ⟨_, rfl, _, rfl, sz (n := 3) (by decide), fun p np => ?_⟩) fun _ => ?_⟩
  · exact k _ (.bin .conj x y) _ (same_new np _) (two (o := .conj) rfl hx hy p np) (by simp [Say.size]; omega)
  refine ⟨_, rfl, rfl, _, rfl, ite2 (fun _ => ⟨_, rfl, _, rfl, sz (n := 3) (by decide), fun p np => ?_⟩) fun _ => ?_⟩
  · exact k _ (.bin .disj y x) _ (same_new np _) (two (o := .disj) rfl hy hx p np) (by simp [Say.size]; omega)
  refine ⟨_, rfl, rfl, _, rfl, ite2 (fun _ => ⟨_, rfl, _, rfl, sz (n := 3) (by decide), fun p np => ?_⟩) fun _ => ?_⟩
  · exact k _ (.bin .impl x y) _ (same_new np _) (two (o := .impl) rfl hx hy p np) (by simp [Say.size]; omega)
  refine ⟨_, rfl, rfl, _, rfl, ite2 (fun _ => ⟨_, rfl, _, rfl, sz (n := 3) (by decide), fun p np => ?_⟩) fun _ => ?_⟩
  · exact k _ (.bin .impl y x) _ (same_new np _) (two (o := .impl) rfl hy hx p np) (by simp [Say.size]; omega)
  refine ⟨_, rfl, sz (n := 2) (by decide), fun q nq => ⟨_, rfl, sz (n := 3) (by decide), fun p np => ?_⟩⟩
  have g1 := same_new nq (.tup [.str "not", v])
  have g2 := same_new np (.tup [.str "or", .ref q, u])
  exact k _ (.bin .disj (.neg x) y) _ (g1.trans g2) ⟨p, _, _, rfl, upd_same, ⟨q, _, rfl, g2 _ _ upd_same, hx.mono (g1.trans g2)⟩, hy.mono (g1.trans g2)⟩ (by simp [Say.size]; omega)
def spGrown : Sp := fun vs H Q _ => ∃ (a m : Addr) (ns : List Int) (at_ : Nat) (many m0 m1 : Int) (ls : List Ltr), vs = [.ref a, .int at_, .int many, .ref m, .str (LsT ls)] ∧ SqL K H a (ns.map V.int) ∧ ns.length ≤ 1000 ∧ at_ ≤ 100 ∧ -100 ≤ many ∧ many ≤ 100 ∧
  H m = some (.tup [.int m0, .int m1]) ∧ 1 ≤ m0 ∧ m0 ≤ 12 ∧ ls ≠ [] ∧ ls.length ≤ 3 ∧ ∀ (v : V) (s : Say) (H' : Hp), Same H H' → SayAt H' s v → (s.size : Int) ≤ m0 → Q v H'
theorem cl_grown (D : Df K mg "_law_grown" "_law_grown" "_law_grown" s_law_grown ["_law_script", "_law_at", "_law_many", "_law_most", "_law_letters_here"]) (T : Tx mg) (cM : Cl P w K mg base CX0 1 "_law_mix" (spMix (K := K))) (cL : Cl P w K mg base CX0 1 "_law_leaf" spLeaf)
    (cJ : Cl P w K mg base CX0 1 "_law_joined" spJoined) (cZ : Cl P w K mg base CX0 131 "_law_size" (spSize 130)) (cS : Cl P w K mg base CX0 131 "_law_shown" (spLShown 130)) : Cl P w K mg base CX0 132 "_law_grown" (spGrown (K := K)) := by
  refine D.ok c_law_grown (fun vs H Q E h => ?_) fun f cdv A outer s H vs Q E hr h => ?_
  · obtain ⟨a, m, ns, at_, many, m0, m1, ls, rfl, _⟩ := h
    rfl
  obtain ⟨a, m, ns, at_, many, m0, m1, ls, rfl, hS, hn, hat, hm1, hm2, hm, hm0, hm12, hne, hl3, k⟩ := h
  refine ⟨_, pss_cons (ps_set (i := 5) c_law_grown.nd rfl (Or.inl rfl) (pe_c0 cL hr (by omega) (pa_cons (pe_c0 cM hr (by omega) (pa_cons (pv 0) (pa_cons (pv 1) pa_nil))) (pa_cons (pv 4) pa_nil))))
    (pss_cons (ps_for PassesOwn.never rfl (pi_range2 rfl T.range (pa_cons pe_int (pa_cons (pv 2) pa_nil))) (pg_name (i := 6) c_law_grown.nd rfl (Or.inl rfl))
      (pss_cons (ps_set (i := 7) c_law_grown.nd rfl (Or.inl rfl) (pe_c0 cM hr (by omega) (pa_cons (pv 0) (pa_cons (pe_op op_add (pv 1) (pv 6)) pa_nil))))
      (pss_cons (ps_set (i := 8) c_law_grown.nd rfl (Or.inl rfl) (pe_c0 cL hr (by omega) (pa_cons (pe_op op_fdiv (pv 7) pe_int) (pa_cons (pv 4) pa_nil))))
      (pss_cons (ps_if (pt_cmpR op_eq (pe_op op_mod (pe_op op_fdiv (pv 7) pe_int) pe_int) pe_int (nomark _)) (pss_one (ps_set (i := 8) c_law_grown.nd rfl (Or.inl rfl) (pe_tup (pa_cons pe_str (pa_cons (pv 8) pa_nil))))) pss_nil)
      (pss_cons (ps_set (i := 9) c_law_grown.nd rfl (Or.inl rfl) (pe_c0 cJ hr (by omega) (pa_cons (pv 5) (pa_cons (pv 8) (pa_cons (pe_op op_mod (pv 7) pe_int) pa_nil)))))
      (pss_one (ps_if (PW.pt (pw_and (pt_cmpR op_le (pe_c0 cZ hr (by omega) (pa_cons (pv 9) pa_nil)) (pe_ix ix_tup (pv 3) pe_int (fun _ _ => rfl)) (nomark _))
          (pw_and1 (pt_cmpR op_le (pe_callB call_len_seq rfl T.len PySem.boot_len (pa_cons (pe_c0 cS hr (by omega) (pa_cons (pv 9) pa_nil)) pa_nil)) (pe_ix ix_tup (pv 3) pe_int (fun _ _ => rfl)) (nomark _)))))
        (pss_one (ps_set (i := 5) c_law_grown.nd rfl (Or.inl rfl) (pv 9))) pss_nil)))))))
    (pss_one (ps_ret (pv 5)))), ?_⟩
  refine ⟨_, rfl, _, rfl, a, ns, at_, rfl, hS, hn, by omega, fun i => ⟨_, rfl, i, ls, rfl, hne, hl3, fun v x H1 g1 hx hz => ?_⟩⟩
  refine ⟨_, rfl, _, _, rfl, ⟨by decide, by decide, by omega, by omega⟩, ?_⟩
  refine for_range (fun _ σ H2 => ∃ (v : V) (x : Say) (o1 o2 o3 o4 : Option V), σ = [some (.ref a), some (.int at_), some (.int many), some (.ref m), some (.str (LsT ls)), some v, o1, o2, o3, o4] ∧ Same H H2 ∧ SayAt H2 x v ∧ (x.size : Int) ≤ m0)
    ⟨v, x, none, none, none, none, rfl, g1, hx, by omega⟩ (fun i σ H2 hi h => ?_) fun σ H2 h => ?_
  · obtain ⟨v, x, o1, o2, o3, o4, rfl, g2, hx2, hz2⟩ := h
    have hi2 : i < 100 := by omega
    refine ⟨_, rfl, _, rfl, _, rfl, _, _, rfl, rfl, a, ns, at_ + (1 + i), by push_cast; rfl, g2.seq hS, hn, by omega, fun c => ?_⟩
    refine ⟨_, rfl, _, _, rfl, rfl, ⟨by decide, by decide⟩, _, rfl, _, ls, rfl, hne, hl3, fun u y H3 g3 hy hzy => ?_⟩
    have step : ∀ (u : V) (y : Say) (H3 : Hp), Same H2 H3 → SayAt H3 y u → y.size ≤ 2 →
      tSeq (tAsg (tCl spJoined E0 (tCons (tVar 5) (tCons (tVar 8) (tCons (tOp (rI (fun _ j => 0 < j) fun i j => .int (i % j)) (tVar 7) (tC (.int 8))) tNil)))) (gName 9))
        (tIfS (tAnd (tTest (tOp (rI0 fun i j => .bl (decide (i ≤ j))) (tCl (spSize 130) E0 (tCons (tVar 9) tNil)) (tOp (rIxT K) (tVar 3) (tC (.int 0)))))
            (tTest (tOp (rI0 fun i j => .bl (decide (i ≤ j))) (tCB (fun xs H Q => ∃ p ys, xs = [.ref p] ∧ (SqL K H p ys ∨ SqT K H p ys) ∧ Q (.int ys.length) H) (tCons (tCl (spLShown 130) E0 (tCons (tVar 9) tNil)) tNil)) (tOp (rIxT K) (tVar 3) (tC (.int 1))))))
          (tAsg (tVar 9) (gName 5)) tNext)
        { nx := fun σ H2 => ∃ (v : V) (x : Say) (o1 o2 o3 o4 : Option V), σ = [some (.ref a), some (.int at_), some (.int many), some (.ref m), some (.str (LsT ls)), some v, o1, o2, o3, o4] ∧ Same H H2 ∧ SayAt H2 x v ∧ (x.size : Int) ≤ m0,
          rt := Q, bk := fun σ H => tRet (tVar 5) { nx := fun _ H' => Q .non H', rt := Q } σ H, ct := fun σ H2 => ∃ (v : V) (x : Say) (o1 o2 o3 o4 : Option V), σ = [some (.ref a), some (.int at_), some (.int many), some (.ref m), some (.str (LsT ls)), some v, o1, o2, o3, o4] ∧ Same H H2 ∧ SayAt H2 x v ∧ (x.size : Int) ≤ m0 }
        [some (.ref a), some (.int at_), some (.int many), some (.ref m), some (.str (LsT ls)), some v, some (.int (1 + i)), some (.int c), some u, o4] H3 := by
      intro u y H3 g3 hy hzy
      refine ⟨_, rfl, _, rfl, _, rfl, _, _, rfl, rfl, (by show (0:Int) < _; decide), _, v, u, x, y, rfl, hx2.mono g3, hy, fun z r H4 g4 hz4 hsz => ?_⟩
      have hht := Say.ht_lt r
      refine ⟨_, rfl, z, r, rfl, hz4, by omega, by omega, fun H5 g5 => ⟨_, rfl, m, _, _, _, rfl, rfl, SqT.of (g5 _ _ (g4 _ _ (g3 _ _ (g2 _ _ hm)))), at0, _, _, rfl, rfl, _, rfl, ?_⟩⟩
      have no : ∀ H6, Same H5 H6 → ∃ (v' : V) (x' : Say) (o1 o2 o3 o4 : Option V), [some (V.ref a), some (.int at_), some (.int many), some (.ref m), some (.str (LsT ls)), some v, some (.int (1 + i)), some (.int c), some u, some z] = [some (.ref a), some (.int at_), some (.int many), some (.ref m), some (.str (LsT ls)), some v', o1, o2, o3, o4] ∧ Same H H6 ∧ SayAt H6 x' v' ∧ (x'.size : Int) ≤ m0 :=
        fun H6 g6 => ⟨v, x, _, _, _, _, rfl, g2.trans (g3.trans (g4.trans (g5.trans g6))), hx2.mono (g3.trans (g4.trans (g5.trans g6))), hz2⟩
      refine ite2 (fun c1 => ?_) fun _ => ite2 (fun z => absurd z Bool.false_ne_true) fun _ => no _ (Same.refl _)
      have c1' : (r.size : Int) ≤ m0 := of_decide_eq_true c1
      refine ⟨_, rfl, z, r, rfl, hz4.mono g5, by omega, by omega, by omega, fun b ys H6 g6 nb hb hys => ⟨b, ys, rfl, .inl (SqL.of hb), _, rfl, m, _, _, _, rfl, rfl, SqT.of (g6 _ _ (g5 _ _ (g4 _ _ (g3 _ _ (g2 _ _ hm))))), at1, _, _, rfl, rfl, _, rfl, ?_⟩⟩
      refine ite2 (fun _ => ?_) fun _ => by first | exact no _ g6 | exact ite2 (fun z => absurd z Bool.false_ne_true) fun _ => no _ g6
      exact ⟨_, rfl, z, r, _, _, _, _, rfl, g2.trans (g3.trans (g4.trans (g5.trans g6))), hz4.mono (g5.trans g6), c1'⟩
    refine ⟨_, rfl, _, _, rfl, rfl, ⟨by decide, by decide⟩, _, _, rfl, rfl, (by show (0:Int) < _; decide), rfl, _, rfl, ite2 (fun _ => ?_) fun _ => step u y H3 g3 hy (by omega)⟩
    refine ⟨_, rfl, sz (n := 2) (by decide), fun p np => ?_⟩
    have g4 := same_new np (.tup [.str "shown", u])
    exact step (.ref p) (.shown y) _ (g3.trans g4) ⟨p, u, rfl, upd_same, hy.mono g4⟩ (by simp [Say.size]; omega)
  · obtain ⟨v, x, o1, o2, o3, o4, rfl, g2, hx2, hz2⟩ := h
    exact ⟨_, rfl, k v x H2 g2 hx2 hz2⟩
end
end SD
namespace SD
open PySem PySem.Spec PyProof.Rows L2 SX
/-- pairs (text, number) in the heap -/
def PrsAt (H : Hp) (l : List (Str × Int)) (vs : List V) : Prop := Paired (fun p v => ∃ a, v = .ref a ∧ H a = some (.tup [.str p.1, .int p.2])) l vs
theorem PrsAt.mono {H H' : Hp} {l : List (Str × Int)} {vs : List V} (g : Same H H') (h : PrsAt H l vs) : PrsAt H' l vs := Paired.mapP h fun _ _ ⟨a, e, q⟩ => ⟨a, e, g _ _ q⟩
/-- the reading of displays (text, number), .. -/
def tPrs : List (Str × Int) → TA
  | [] => tNil
  | p :: l => tCons (tTup (tCons (tC (.str p.1)) (tCons (tC (.int p.2)) tNil))) (tPrs l)
theorem q_prs {σ : L2.St} : ∀ {l : List (Str × Int)} {H : Hp} {Q : List V → Hp → Prop}, (∀ (vs : List V) (H' : Hp), Same H H' → PrsAt H' l vs → Q vs H') → tPrs l σ H Q
  | [], H, Q, h => h [] H (Same.refl _) .nil
  | p :: l, H, Q, h => by
    refine ⟨sz (n := 2) (by decide), fun a na => ?_⟩
    refine q_prs (l := l) fun vs H' g hv => h _ H' ((same_new na _).trans g) (.cons ⟨a, rfl, g _ _ upd_same⟩ hv)
section
variable {P : Program} {w : World} {K : PySem.W.Frag} {mg : Str → Option Value} {base : Heap}
/-! # bad texts -/
def badA : List (Str × Int) := [("", 0), ("(p&q", 4), ("p&q", 1), ("[p", 2), ("~", 1), ("(p+q)", 2), ("x", 0), ("pq", 1)]
def badB : List (Str × Int) := [("[p)", 2), ("(p)", 2), ("P", 0), ("()", 1), ("~~(q>1)", 5), ("[[0]", 4), ("(p|q]", 4), ("0]", 1)]
def spBad : Sp := fun vs H Q _ => ∃ i : Int, vs = [.int i] ∧ ∀ (p : Str × Int) (q : Addr) (H' : Hp), p ∈ badA ++ badB → Same H H' → H' q = some (.tup [.str p.1, .int p.2]) → Q (.ref q) H'
theorem cl_bad (D : Df K mg "_law_bad" "_law_bad" "_law_bad" s_law_bad ["_law_cell"]) : Cl P w K mg base CX0 1 "_law_bad" spBad := by
  refine D.ok c_law_bad (fun vs H Q E h => ?_) fun f cdv A outer s H vs Q E hr h => ?_
  · obtain ⟨i, rfl, _⟩ := h
    rfl
  obtain ⟨i, rfl, k⟩ := h
  refine ⟨tSeq (tAsg (tLst (tPrs badA)) (gName 1)) (tSeq (tAsg (tOp rCat (tVar 1) (tLst (tPrs badB))) (gName 1)) (tRet (tOp (rIxL K) (tVar 1) (tOp (rI (fun _ j => 0 < j) fun i j => .int (i % j)) (tVar 0) (tC (.int 16)))))),
    pss_cons (ps_set (i := 1) c_law_bad.nd rfl (Or.inl rfl) (pe_lst
      (pa_cons (pe_tup (pa_cons pe_str (pa_cons pe_int pa_nil))) (pa_cons (pe_tup (pa_cons pe_str (pa_cons pe_int pa_nil))) (pa_cons (pe_tup (pa_cons pe_str (pa_cons pe_int pa_nil))) (pa_cons (pe_tup (pa_cons pe_str (pa_cons pe_int pa_nil)))
      (pa_cons (pe_tup (pa_cons pe_str (pa_cons pe_int pa_nil))) (pa_cons (pe_tup (pa_cons pe_str (pa_cons pe_int pa_nil))) (pa_cons (pe_tup (pa_cons pe_str (pa_cons pe_int pa_nil))) (pa_cons (pe_tup (pa_cons pe_str (pa_cons pe_int pa_nil))) pa_nil))))))))))
    (pss_cons (ps_set (i := 1) c_law_bad.nd rfl (Or.inl rfl) (pe_op op_cat (pv 1) (pe_lst
      (pa_cons (pe_tup (pa_cons pe_str (pa_cons pe_int pa_nil))) (pa_cons (pe_tup (pa_cons pe_str (pa_cons pe_int pa_nil))) (pa_cons (pe_tup (pa_cons pe_str (pa_cons pe_int pa_nil))) (pa_cons (pe_tup (pa_cons pe_str (pa_cons pe_int pa_nil)))
      (pa_cons (pe_tup (pa_cons pe_str (pa_cons pe_int pa_nil))) (pa_cons (pe_tup (pa_cons pe_str (pa_cons pe_int pa_nil))) (pa_cons (pe_tup (pa_cons pe_str (pa_cons pe_int pa_nil))) (pa_cons (pe_tup (pa_cons pe_str (pa_cons pe_int pa_nil))) pa_nil)))))))))))
    (pss_one (ps_ret (pe_ix ix_list (pv 1) (pe_op op_mod (pv 0) pe_int) (fun _ _ => rfl))))), ?_⟩
  refine q_prs fun vs H1 g1 h1 => ?_
  have l1 := Paired.len h1
  have l1' : vs.length = 8 := l1.symm
  refine ⟨sz (n := vs.length) (by omega), fun L nL => ⟨_, rfl, q_prs fun us H2 g2 h2 => ?_⟩⟩
  have l2' : us.length = 8 := (Paired.len h2).symm
  have g0 := same_new nL (.lst vs)
  refine ⟨sz (n := us.length) (by omega), fun M nM => ⟨L, M, vs, us, rfl, rfl, ?_, upd_same, sz (n := vs.length + us.length) (by omega), fun N nN => ?_⟩⟩
  · exact same_new nM _ _ _ (g2 _ _ upd_same)
  have g3 := same_new nM (.lst us)
  have g4 := same_new nN (.lst (vs ++ us))
  have all : PrsAt (upd (upd H2 M (.lst us)) N (.lst (vs ++ us))) (badA ++ badB) (vs ++ us) := paired_app (h1.mono (g0.trans (g2.trans (g3.trans g4)))) (h2.mono (g3.trans g4))
  obtain ⟨x, hx, e⟩ := atI_lt (l := vs ++ us) (i := i % 16) (Int.emod_nonneg _ (by decide)) (by rw [List.length_append]; have := Int.emod_lt_of_pos i (b := 16) (by decide); omega)
  obtain ⟨j, hj⟩ := List.mem_iff_getElem?.mp hx
  have hjl : j < (badA ++ badB).length := by rw [Paired.len all]; exact (List.getElem?_eq_some_iff.mp hj).1
  obtain ⟨a, rfl, ha⟩ := paired_get all j _ _ (List.getElem?_eq_getElem hjl) hj
  exact ⟨_, rfl, _, rfl, _, _, rfl, rfl, (by show (0:Int) < _; decide), N, _, _, _, rfl, rfl, SqL.of upd_same, e, k _ a _ (List.getElem_mem hjl) (g1.trans (g0.trans (g2.trans (g3.trans g4)))) ha⟩
/-! # free sayings -/
def spFree (n : Nat) : Sp := fun vs H Q _ => ∃ (c : Int) (l : Nat), vs = [.int c, .int l] ∧ 1 ≤ l ∧ l < n ∧ l ≤ 100 ∧ ∀ (q : Addr) (v : V) (s : Say) (c' : Int) (H' : Hp), Same H H' → H' q = some (.tup [v, .int c', .int s.size]) → SayAt H' s v → s.size ≤ l → Q (.ref q) H'
theorem cl_free (D : Df K mg "_law_free" "_law_free" "_law_free" s_law_free ["_law_cell", "_law_left"]) : ∀ n : Nat, Cl P w K mg base CX0 (n + 1) "_law_free" (spFree n)
  | 0 => D.no fun vs H Q E h => by
    obtain ⟨c, l, _, _, h, _⟩ := h
    omega
  | n + 1 => by
    have ih := cl_free D n
    refine D.ok c_law_free (fun vs H Q E h => ?_) fun f cdv A outer s H vs Q E hr h => ?_
    · obtain ⟨c, l, rfl, _⟩ := h
      rfl
    obtain ⟨c, l, rfl, h1, h2, h3, k⟩ := h
    refine ⟨_, pss_cons (ps_set (i := 2) c_law_free.nd rfl (Or.inl rfl) (pe_op op_mod (pv 0) pe_int))
      (pss_cons (ps_set (i := 0) c_law_free.nd rfl (Or.inl rfl) (pe_op op_fdiv (pv 0) pe_int))
      (pss_cons (ps_if (PW.pt (pw_or (pt_cmpR op_lt (pv 1) pe_int (nomark _)) (pw_or1 (pt_cmpR op_lt (pv 2) pe_int (nomark _)))))
        (pss_cons (ps_set (i := 3) c_law_free.nd rfl (Or.inl rfl) (pe_lst (pa_cons (pe_tup (pa_cons pe_str pa_nil)) (pa_cons (pe_tup (pa_cons pe_str (pa_cons pe_str pa_nil))) (pa_cons (pe_tup (pa_cons pe_str (pa_cons pe_str pa_nil))) (pa_cons (pe_tup (pa_cons pe_str (pa_cons pe_str pa_nil))) pa_nil))))))
        (pss_one (ps_ret (pe_tup (pa_cons (pe_ix ix_list (pv 3) (pe_op op_mod (pv 2) pe_int) (fun _ _ => rfl)) (pa_cons (pv 0) (pa_cons pe_int pa_nil))))))) pss_nil)
      (pss_cons (ps_if (PW.pt (pw_or (pt_cmpR op_lt (pv 1) pe_int (nomark _)) (pw_or1 (pt_cmpR op_lt (pv 2) pe_int (nomark _)))))
        (pss_cons (ps_asg (pe_c0 ih hr (by omega) (pa_cons (pv 0) (pa_cons (pe_op op_sub (pv 1) pe_int) pa_nil))) (pg_tup rfl (pgs_cons (pg_name (i := 4) c_law_free.nd rfl (Or.inl rfl)) (pgs_cons (pg_name (i := 0) c_law_free.nd rfl (Or.inl rfl)) (pgs_cons (pg_name (i := 5) c_law_free.nd rfl (Or.inl rfl)) pgs_nil)))))
        (pss_one (ps_ret (pe_tup (pa_cons (pe_tup (pa_cons (pe_ix ix_list (pe_lst (pa_cons pe_str (pa_cons pe_str pa_nil))) (pe_op op_mod (pv 2) pe_int) (fun _ _ => rfl)) (pa_cons (pv 4) pa_nil))) (pa_cons (pv 0) (pa_cons (pe_op op_add pe_int (pv 5)) pa_nil))))))) pss_nil)
      (pss_cons (ps_asg (pe_c0 ih hr (by omega) (pa_cons (pv 0) (pa_cons (pe_op op_sub (pv 1) pe_int) pa_nil))) (pg_tup rfl (pgs_cons (pg_name (i := 4) c_law_free.nd rfl (Or.inl rfl)) (pgs_cons (pg_name (i := 0) c_law_free.nd rfl (Or.inl rfl)) (pgs_cons (pg_name (i := 5) c_law_free.nd rfl (Or.inl rfl)) pgs_nil)))))
      (pss_cons (ps_asg (pe_c0 ih hr (by omega) (pa_cons (pv 0) (pa_cons (pe_op op_sub (pe_op op_sub (pv 1) pe_int) (pv 5)) pa_nil))) (pg_tup rfl (pgs_cons (pg_name (i := 6) c_law_free.nd rfl (Or.inl rfl)) (pgs_cons (pg_name (i := 0) c_law_free.nd rfl (Or.inl rfl)) (pgs_cons (pg_name (i := 7) c_law_free.nd rfl (Or.inl rfl)) pgs_nil)))))
      (pss_one (ps_ret (pe_tup (pa_cons (pe_tup (pa_cons (pe_ix ix_list (pe_lst (pa_cons pe_str (pa_cons pe_str (pa_cons pe_str pa_nil)))) (pe_op op_mod (pv 2) pe_int) (fun _ _ => rfl)) (pa_cons (pv 4) (pa_cons (pv 6) pa_nil)))) (pa_cons (pv 0) (pa_cons (pe_op op_add (pe_op op_add pe_int (pv 5)) (pv 7)) pa_nil))))))))))), ?_⟩
    refine ⟨_, rfl, _, _, rfl, rfl, (by show (0:Int) < _; decide), _, rfl, _, _, rfl, rfl, ⟨by decide, by decide⟩, ?_⟩
    -- a leaf
    have leaf : ∀ (kd c' : Int), tSeq (tAsg (tLst (tCons (tTup (tCons (tC (.str "no")) tNil)) (tCons (tTup (tCons (tC (.str "letter")) (tCons (tC (.str "p")) tNil))) (tCons (tTup (tCons (tC (.str "letter")) (tCons (tC (.str "q")) tNil))) (tCons (tTup (tCons (tC (.str "letter")) (tCons (tC (.str "r")) tNil))) tNil))))) (gName 3))
        (tRet (tTup (tCons (tOp (rIxL K) (tVar 3) (tOp (rI (fun _ j => 0 < j) fun i j => .int (i % j)) (tVar 2) (tC (.int 4)))) (tCons (tVar 0) (tCons (tC (.int 1)) tNil)))))
        { nx := fun _ H' => Q .non H', rt := Q } [some (.int c'), some (.int l), some (.int kd), none, none, none, none, none] H := by
      intro kd c'
      refine ⟨sz (n := 1) (by decide), fun a na => ⟨sz (n := 2) (by decide), fun b nb => ⟨sz (n := 2) (by decide), fun d nd => ⟨sz (n := 2) (by decide), fun e ne => ⟨sz (n := 4) (by decide), fun L nL => ?_⟩⟩⟩⟩⟩
      have ga := same_new na (.tup [.str "no"])
      have gb := same_new nb (.tup [.str "letter", .str "p"])
      have gd := same_new nd (.tup [.str "letter", .str "q"])
      have ge := same_new ne (.tup [.str "letter", .str "r"])
      have gL := same_new nL (.lst [.ref a, .ref b, .ref d, .ref e])
      have gg := ga.trans (gb.trans (gd.trans (ge.trans gL)))
      obtain ⟨x, hx, hi⟩ := atI_lt (l := [V.ref a, .ref b, .ref d, .ref e]) (i := kd % 4) (Int.emod_nonneg _ (by decide)) (Int.emod_lt_of_pos _ (by decide))
      refine ⟨_, rfl, _, rfl, _, _, rfl, rfl, (by show (0:Int) < _; decide), L, _, _, _, rfl, rfl, SqL.of upd_same, hi, _, rfl, sz (n := 3) (by decide), fun q nq => ?_⟩
      have gq := same_new nq (.tup [x, .int c', .int 1])
      simp only [List.mem_cons, List.not_mem_nil, or_false] at hx
      rcases hx with rfl | rfl | rfl | rfl
      · exact k q _ .no c' _ (gg.trans gq) upd_same ⟨a, rfl, (gb.trans (gd.trans (ge.trans (gL.trans gq)))) _ _ upd_same⟩ h1
      · exact k q _ (.letter .p) c' _ (gg.trans gq) upd_same ⟨b, rfl, (gd.trans (ge.trans (gL.trans gq))) _ _ upd_same⟩ h1
      · exact k q _ (.letter .q) c' _ (gg.trans gq) upd_same ⟨d, rfl, (ge.trans (gL.trans gq)) _ _ upd_same⟩ h1
      · exact k q _ (.letter .r) c' _ (gg.trans gq) upd_same ⟨e, rfl, (gL.trans gq) _ _ upd_same⟩ h1
    refine ⟨_, rfl, _, _, rfl, rfl, _, rfl, ite2 (fun _ => leaf _ _) fun cl => ?_⟩
    have hl2 : 2 ≤ l := by
      have : ¬ ((l : Int) < 2) := fun z => cl (decide_eq_true z)
      omega
    refine ⟨_, rfl, _, _, rfl, rfl, _, rfl, ite2 (fun _ => leaf _ _) fun _ => ?_⟩
    have w2 : ∀ x ∈ [V.str "not", .str "shown"], x = .str "not" ∨ x = .str "shown" := fun x hx => by simpa using hx
    have w3 : ∀ x ∈ [V.str "and", .str "or", .str "if"], ∃ o : Op, x = .str o.word := fun x hx => by
      simp only [List.mem_cons, List.not_mem_nil, or_false] at hx
      rcases hx with rfl | rfl | rfl
      · exact ⟨.conj, rfl⟩
      · exact ⟨.disj, rfl⟩
      · exact ⟨.impl, rfl⟩
    -- of one
    have one : ∀ (kd c' : Int), tSeq (tAsg (tCl (spFree n) E0 (tCons (tVar 0) (tCons (tOp (rI0 fun i j => .int (i - j)) (tVar 1) (tC (.int 1))) tNil))) (gTup K 3 (gCons (gName 4) (gCons (gName 0) (gCons (gName 5) gNil)))))
        (tRet (tTup (tCons (tTup (tCons (tOp (rIxL K) (tLst (tCons (tC (.str "not")) (tCons (tC (.str "shown")) tNil))) (tOp (rI (fun _ j => 0 < j) fun i j => .int (i % j)) (tVar 2) (tC (.int 2)))) (tCons (tVar 4) tNil))) (tCons (tVar 0) (tCons (tOp (rI0 fun i j => .int (i + j)) (tC (.int 1)) (tVar 5)) tNil)))))
        { nx := fun _ H' => Q .non H', rt := Q } [some (.int c'), some (.int l), some (.int kd), none, none, none, none, none] H := by
      intro kd c'
      refine ⟨_, rfl, _, rfl, _, _, rfl, rfl, c', l - 1, by rw [show ((l - 1 : Nat) : Int) = (l : Int) - 1 by omega], by omega, by omega, by omega, fun q v x c2 H1 g1 hq hx hs => ?_⟩
      refine ⟨q, _, rfl, SqT.of hq, rfl, _, _, rfl, _, _, rfl, _, _, rfl, rfl, ?_⟩
      obtain ⟨y, hy, hi⟩ := atI_lt (l := [V.str "not", .str "shown"]) (i := kd % 2) (Int.emod_nonneg _ (by decide)) (Int.emod_lt_of_pos _ (by decide))
      refine ⟨sz (n := 2) (by decide), fun L nL => ⟨_, rfl, _, _, rfl, rfl, (by show (0:Int) < _; decide), L, _, _, y, rfl, rfl, SqL.of upd_same, hi, _, rfl, sz (n := 2) (by decide), fun p np => ⟨_, rfl, _, rfl, _, _, rfl, rfl, sz (n := 3) (by decide), fun r nr => ?_⟩⟩⟩
      have g2 := same_new nL (.lst [.str "not", .str "shown"])
      have g3 := same_new np (.tup [y, v])
      have g4 := same_new nr (.tup [.ref p, .int c2, .int (1 + x.size)])
      have gg := g1.trans (g2.trans (g3.trans g4))
      have hx2 := hx.mono (g2.trans (g3.trans g4))
      rcases w2 y hy with rfl | rfl
      · exact k r _ (.neg x) c2 _ gg (by rw [show (((Say.neg x).size : Nat) : Int) = 1 + (x.size : Int) by simp [Say.size]]; exact upd_same) ⟨p, v, rfl, g4 _ _ upd_same, hx2⟩ (by simp only [Say.size]; omega)
      · exact k r _ (.shown x) c2 _ gg (by rw [show (((Say.shown x).size : Nat) : Int) = 1 + (x.size : Int) by simp [Say.size]]; exact upd_same) ⟨p, v, rfl, g4 _ _ upd_same, hx2⟩ (by simp only [Say.size]; omega)
    refine ⟨_, rfl, _, _, rfl, rfl, _, rfl, ite2 (fun _ => one _ _) fun cl3 => ?_⟩
    have hl3 : 3 ≤ l := by
      have : ¬ ((l : Int) < 3) := fun z => cl3 (decide_eq_true z)
      omega
    refine ⟨_, rfl, _, _, rfl, rfl, _, rfl, ite2 (fun _ => one _ _) fun _ => ?_⟩
    refine ⟨_, rfl, _, rfl, _, _, rfl, rfl, _, l - 2, by rw [show ((l - 2 : Nat) : Int) = (l : Int) - 2 by omega], by omega, by omega, by omega, fun q v x c2 H1 g1 hq hx hs => ?_⟩
    refine ⟨q, _, rfl, SqT.of hq, rfl, _, _, rfl, _, _, rfl, _, _, rfl, rfl, ?_⟩
    have hxp := Say.size_pos x
    refine ⟨_, rfl, _, rfl, _, _, rfl, rfl, _, rfl, _, _, rfl, rfl, c2, l - 1 - x.size, by rw [show ((l - 1 - x.size : Nat) : Int) = (l : Int) - 1 - x.size by omega], by omega, by omega, by omega, fun q2 u y c3 H2 g2 hq2 hy hs2 => ?_⟩
    refine ⟨q2, _, rfl, SqT.of hq2, rfl, _, _, rfl, _, _, rfl, _, _, rfl, rfl, ?_⟩
    refine ⟨sz (n := 3) (by decide), fun L nL => ?_⟩
    obtain ⟨z, hz, hi⟩ := atI_lt (l := [V.str "and", .str "or", .str "if"]) (i := (c : Int) % 9 % 3) (Int.emod_nonneg _ (by decide)) (Int.emod_lt_of_pos _ (by decide))
    obtain ⟨o, rfl⟩ := w3 z hz
    refine ⟨_, rfl, _, _, rfl, rfl, (by show (0:Int) < _; decide), L, _, _, _, rfl, rfl, SqL.of upd_same, hi, _, rfl, _, rfl, sz (n := 3) (by decide), fun p np => ⟨_, rfl, _, rfl, _, _, rfl, rfl, _, rfl, _, _, rfl, rfl, sz (n := 3) (by decide), fun r nr => ?_⟩⟩
    have g3 := same_new nL (.lst [.str "and", .str "or", .str "if"])
    have g4 := same_new np (.tup [.str o.word, v, u])
    have g5 := same_new nr (.tup [.ref p, .int c3, .int (1 + x.size + y.size)])
    have gg := g1.trans (g2.trans (g3.trans (g4.trans g5)))
    exact k r _ (.bin o x y) c3 _ gg (by rw [show (((Say.bin o x y).size : Nat) : Int) = 1 + (x.size : Int) + y.size by simp [Say.size]; omega]; exact upd_same) ⟨p, v, u, rfl, g5 _ _ upd_same, hx.mono (g2.trans (g3.trans (g4.trans g5))), hy.mono (g3.trans (g4.trans g5))⟩ (by simp only [Say.size]; omega)
end
end SD
namespace SD
open PySem PySem.Spec PyProof.Rows L2 SX
/-- a comprehension over any walk whose items are told by as, one by one -/
theorem lc_onW {α : Type} {J : It} {n : Nat} {G : Hp → Prop} {Y : Nat → Hp → V → Hp → Prop} (wk : Walk J n G Y) {as : List α} {g : TG} {tt : TT} {te : TE} {vs : List Nat} {σ : L2.St} {H1 : Hp} {D : Addr} {Qd : Hp → Prop} (f : α → Bool) (R : α → V → Hp → Prop)
    (hG : ∀ H, Same H1 H → G H) (hlen : as.length = n) (hz : as.length ≤ 50000) (n1 : H1 D = none)
    (mono : ∀ x y H H' acc, H D = some (.lst acc) → Exc D H H' → R x y H → R x y H')
    (step : ∀ (j : Nat) (x : α) (v : V) (H H' : Hp) (acc : List V) (C : V → Hp → Prop) (C' : Hp → Prop), as[j]? = some x → Y j H v H' → Same H1 H → H D = some (.lst acc) →
      (f x = true → ∀ y H4, Same H H4 → R x y H4 → C y H4) → (f x = false → ∀ H4, Same H H4 → C' H4) →
      g v (wipe σ vs) H' fun σ2 H2 => wipe σ2 vs = wipe σ vs ∧ tt σ2 H2 fun b H3 => if b = true then te σ2 H3 C else C' H3)
    (fin : ∀ ys H, Same H1 H → H D = some (.lst ys) → Paired (fun x y => R x y H) (as.filter f) ys → Qd H) :
    ∃ W : Nat → Nat → Hp → Prop, (∃ m, W 0 m (upd H1 D (.lst []))) ∧ ∀ i m H, W i m H →
      (J.stop i H ∧ Qd H) ∨ (J.go i H ∧ ∃ Nx : Hp → Prop, (∀ H', Nx H' → ∃ m', m' < m ∧ W (i + 1) m' H') ∧ ∀ x H', J.yld i H x H' → g x (wipe σ vs) H' fun σ2 H2 => wipe σ2 vs = wipe σ vs ∧ tt σ2 H2 fun b H3 =>
        if b = true then te σ2 H3 fun y H4 => ∃ acc, H4 D = some (.lst acc) ∧ acc.length < sizeLine ∧ Nx (upd H4 D (.lst (acc ++ [y]))) else Nx H3) := by
  have sD : ∀ {H H' : Hp} {o : HO}, Same H1 H → Same H H' → Same H1 (upd H' D o) := fun s1 s2 b u q => by
    rw [upd_ne (ne_of_none q n1)]
    exact s2 _ _ (s1 _ _ q)
  refine lc_it wk (fun i H => Same H1 H ∧ ∃ acc, H D = some (.lst acc) ∧ Paired (fun x y => R x y H) ((as.take i).filter f) acc) ⟨same_new n1 _, [], upd_same, .nil⟩ (fun i H _ h => hG H h.1) (fun i v H H' hi h hy => ?_) fun H h => ?_
  · obtain ⟨s1, acc, hD, hp⟩ := h
    have hi : i < as.length := by rw [hlen]; exact hi
    have hx : as[i]? = some as[i] := List.getElem?_eq_getElem hi
    have hacc : acc.length ≤ as.length := by
      rw [← Paired.len hp]
      exact Nat.le_trans (List.length_filter_le _ _) (by rw [List.length_take]; omega)
    refine step i _ v H H' acc _ _ hx hy s1 hD (fun hf y H4 s4 r => ?_) fun hf H4 s4 => ?_
    · refine ⟨acc, s4 _ _ hD, szml (by omega), sD s1 s4, _, upd_same, ?_⟩
      have ex : Exc D H4 (upd H4 D (.lst (acc ++ [y]))) := fun b o hb q => by rw [upd_ne hb]; exact q
      have ex0 : Exc D H (upd H4 D (.lst (acc ++ [y]))) := fun b o hb q => by rw [upd_ne hb]; exact s4 _ _ q
      rw [take_snoc hx, List.filter_append]
      have e1 : [as[i]].filter f = [as[i]] := by simp [hf]
      rw [e1]
      exact paired_snoc (F := fun x z => R x z (upd H4 D (.lst (acc ++ [y])))) (mono _ _ _ _ acc (s4 _ _ hD) ex r) (Paired.mapP hp fun u z q => mono u z H _ acc hD ex0 q)
    · refine ⟨fun b o q => s4 _ _ (s1 _ _ q), acc, s4 _ _ hD, ?_⟩
      rw [take_snoc hx, List.filter_append]
      have e1 : [as[i]].filter f = [] := by simp [hf]
      rw [e1, List.append_nil]
      exact Paired.mapP (G := fun x z => R x z H4) hp fun u z q => mono u z H H4 acc hD (fun b o _ q => s4 _ _ q) q
  · obtain ⟨s1, acc, hD, hp⟩ := h
    refine fin acc H s1 hD ?_
    rw [List.take_of_length_le (by omega)] at hp
    exact hp
section
variable {P : Program} {w : World} {K : PySem.W.Frag} {mg : Str → Option Value} {base : Heap}
/-! # signs of truths -/
def sgn (b : Bool) : Nat := if b then 49 else 48
theorem join_ones : ∀ l : List Nat, TL.joinL [] (l.map fun c => [c]) = l
  | [] => rfl
  | [c] => rfl
  | c :: d :: l => by
    show [c] ++ ([] ++ TL.joinL [] ((d :: l).map fun c => [c])) = _
    rw [join_ones (d :: l)]; rfl
theorem join_chars (l : List Nat) : Txt.join (S []) ((l.map fun c => [c]).map S) = S l := by rw [join_S, join_ones]
theorem sum_ones (l : List Nat) : (((l.map fun c => [c]).map S).map (·.length)).sum + ((l.map fun c => [c]).map S).length * (S []).length = l.length := by
  have : (S []).length = 0 := rfl
  rw [this, Nat.mul_zero, Nat.add_zero]
  induction l with
  | nil => rfl
  | cons c l ih =>
    rw [List.map_cons, List.map_cons, List.map_cons, List.sum_cons, ih, S_length]
    simp; omega
def spSigns : Sp := fun vs H Q _ => ∃ (a : Addr) (bs : List Bool), vs = [.ref a] ∧ SqL K H a (bs.map V.bl) ∧ bs.length ≤ 1000 ∧ ∀ H', Same H H' → Q (.str (S (bs.map sgn))) H'
theorem map_at {α β : Type} {f : α → β} {l : List α} {j : Nat} {x : α} {y : β} (h : l[j]? = some x) (h' : (l.map f)[j]? = some y) : y = f x := by
  rw [List.getElem?_map, h] at h'
  exact (Option.some.inj h').symm
theorem str01 : (("01" : Str).cps.toList = [48, 49]) ∧ ("" : Str) = S [] := by decide +kernel
theorem cl_lsigns (D : Df K mg "_law_signs" "_law_signs" "_law_signs" s_law_signs ["_law_truths"]) (T : Tx mg) : Cl P w K mg base CX0 1 "_law_signs" (spSigns (K := K)) := by
  refine D.ok c_law_signs (fun vs H Q E h => ?_) fun f cdv A outer s H vs Q E hr h => ?_
  · obtain ⟨a, bs, rfl, _⟩ := h
    rfl
  obtain ⟨a, bs, rfl, hS, hl, k⟩ := h
  refine ⟨_, pss_one (ps_ret (pe_join pe_str (pe_lc (own := [("_law_truth", 1)]) (g := gName 1) rfl c_law_signs.nd (pi_list (pv 0)) (blkOk_by (own := [("_law_truth", 1)]) (N := ["_law_truths", "_law_truth"]) (sc := defScope s_law_signs) (by decide +kernel))
        (fun _ _ _ _ _ => pg_name (i := 1) c_law_signs.nd rfl (Or.inl rfl)) (fun _ _ _ _ _ => pts_nil) (fun _ _ _ _ _ => pe_ix ix_str pe_str (pe_callTy call_int1 rfl T.int (by decide +kernel) (pa_cons (pv 1) pa_nil)) (fun _ _ => rfl))))), ?_⟩
  refine ⟨⟨_, rfl⟩, _, rfl, a, rfl, ⟨_, hS⟩, fun D nD => ?_⟩
  refine lc_on (as := bs) (fun _ => true) (fun b y _ => y = .str (S [sgn b])) hS (by rw [List.length_map]) (by omega) nD (fun _ _ _ _ _ _ _ h => h) (fun j b v H2 acc C C' hb hv s1 hD hC _ => ?_) fun ys H2 s1 hD hy => ?_
  · have e := map_at hb hv
    subst e
    refine ⟨rfl, q_yes _ _ ⟨_, rfl, .inr ⟨b, rfl, "01", _, sgn b, rfl, rfl, ?_, ?_, hC rfl _ _ (Same.refl _) rfl⟩⟩⟩
    · have e : ("01" : Str).length = 2 := by decide +kernel
      rw [e]; exact sz (by decide)
    · rw [str01.1]; cases b <;> decide
  · rw [filter_true] at hy
    have e : ys = (((bs.map sgn).map fun c => [c]).map S).map V.str := by
      rw [paired_eq (f := fun b => V.str (S [sgn b])) hy, List.map_map, List.map_map, List.map_map]; rfl
    subst e
    refine ⟨S [], D, _, by rw [← str01.2], rfl, .inl (SqL.of hD), by rw [sum_ones, List.length_map]; omega, ?_⟩
    rw [join_chars]
    exact k H2 s1
theorem cl_signs (D : Df K mg "signs_of" "signs_of" "signs_of" s_signs_of ["some"]) (T : Tx mg) : Cl P w K mg base CX0 1 "signs_of" (spSigns (K := K)) := by
  refine D.ok c_signs_of (fun vs H Q E h => ?_) fun f cdv A outer s H vs Q E hr h => ?_
  · obtain ⟨a, bs, rfl, _⟩ := h
    rfl
  obtain ⟨a, bs, rfl, hS, hl, k⟩ := h
  refine ⟨_, pss_one (ps_ret (pe_join pe_str (pe_lc (own := [("truth", 1)]) (g := gName 1) rfl c_signs_of.nd (pi_list (pv 0)) (blkOk_by (own := [("truth", 1)]) (N := ["some", "truth"]) (sc := defScope s_signs_of) (by decide +kernel))
        (fun _ _ _ _ _ => pg_name (i := 1) c_signs_of.nd rfl (Or.inl rfl)) (fun _ _ _ _ _ => pts_nil) (fun _ _ _ _ _ => pe_callTy call_str_int rfl T.str (by decide +kernel) (pa_cons (pe_callTy call_int1 rfl T.int (by decide +kernel) (pa_cons (pv 1) pa_nil)) pa_nil))))), ?_⟩
  refine ⟨⟨_, rfl⟩, _, rfl, a, rfl, ⟨_, hS⟩, fun D nD => ?_⟩
  refine lc_on (as := bs) (fun _ => true) (fun b y _ => y = .str (S [sgn b])) hS (by rw [List.length_map]) (by omega) nD (fun _ _ _ _ _ _ _ h => h) (fun j b v H2 acc C C' hb hv s1 hD hC _ => ?_) fun ys H2 s1 hD hy => ?_
  · have e := map_at hb hv
    subst e
    refine ⟨rfl, q_yes _ _ ⟨_, rfl, .inr ⟨b, rfl, _, rfl, ?_, hC rfl _ _ (Same.refl _) ?_⟩⟩⟩
    · cases b <;> decide +kernel
    · cases b <;> decide +kernel
  · rw [filter_true] at hy
    have e : ys = (((bs.map sgn).map fun c => [c]).map S).map V.str := by
      rw [paired_eq (f := fun b => V.str (S [sgn b])) hy, List.map_map, List.map_map, List.map_map]; rfl
    subst e
    refine ⟨S [], D, _, by rw [← str01.2], rfl, .inl (SqL.of hD), by rw [sum_ones, List.length_map]; omega, ?_⟩
    rw [join_chars]
    exact k H2 s1
/-! # letters of the law's text -/
def spLLet : Sp := fun vs H Q _ => ∃ (v : V) (s : Say), vs = [v] ∧ SayAt H s v ∧ s.ht < 130 ∧ s.size ≤ 20000 ∧ ∀ (a : Addr) (H' : Hp), Same H H' → H a = none → H' a = some (.lst ((lets s).map fun c => V.str c.str)) → Q (.ref a) H'
theorem strpqr : (("pqr" : Str).cps.toList = [112, 113, 114]) ∧ ("pqr" : Str).cps.size = 3 ∧ ("pqr" : Str).length = 3 := by decide +kernel
theorem cl_lletters (D : Df K mg "_law_letters" "_law_letters" "_law_letters" s_law_letters ["_law_saying"]) (cT : Cl P w K mg base CX0 131 "_law_text" (spText 130)) : Cl P w K mg base CX0 132 "_law_letters" spLLet := by
  refine D.ok c_law_letters (fun vs H Q E h => ?_) fun f cdv A outer s H vs Q E hr h => ?_
  · obtain ⟨v, s, rfl, _⟩ := h
    rfl
  obtain ⟨v, x, rfl, hx, hh, hz, k⟩ := h
  refine ⟨_, pss_one (ps_ret (pe_lc (own := [("_law_letter", 1)]) (g := gName 1) rfl c_law_letters.nd (pi_str pe_str) (blkOk_by (own := [("_law_letter", 1)]) (N := ["_law_saying", "_law_letter"]) (sc := defScope s_law_letters) (by decide +kernel))
        (fun _ _ _ _ _ => pg_name (i := 1) c_law_letters.nd rfl (Or.inl rfl)) (fun _ _ _ _ _ => pts_one (pt_cmpR op_in_sign (pv 1) (pe_c0 cT hr (by omega) (pa_cons (pv 0) pa_nil)) rfl)) (fun _ _ _ _ _ => pv 1))), ?_⟩
  refine ⟨_, rfl, fun D nD => ?_⟩
  refine lc_onW walk_str (as := [Ltr.p, .q, .r]) (fun c => x.has c) (fun c y _ => y = .str c.str) (fun _ _ => trivial) strpqr.2.1.symm (by decide) nD (fun _ _ _ _ _ _ _ h => h) (fun j c v H2 H2' acc C C' hc hv s1 hD hC hC' => ?_) fun ys H2 s1 hD hy => ?_
  · obtain ⟨rfl, d, hd, rfl⟩ := hv
    have hd' : [112, 113, 114][j]? = some d := by rw [← strpqr.1, Array.getElem?_toList]; exact hd
    have e : d = c.code := by
      match j, hc, hd' with
      | 0, hc, hd' => injection hc with hc; injection hd' with hd'; subst hc; exact hd'.symm
      | 1, hc, hd' => injection hc with hc; injection hd' with hd'; subst hc; exact hd'.symm
      | 2, hc, hd' => injection hc with hc; injection hd' with hd'; subst hc; exact hd'.symm
      | n + 3, hc, _ => cases hc
    subst e
    refine ⟨rfl, _, rfl, _, rfl, _, x, rfl, hx.mono s1, hh, hz, fun H3 g3 => ⟨c.code, S x.text, rfl, rfl, _, rfl, ?_⟩⟩
    have e : decide (c.code ∈ (S x.text).cps.toList) = x.has c := by
      show decide (c.code ∈ x.text) = _
      cases h : x.has c with
      | true => exact decide_eq_true ((Say.text_has c x).mpr h)
      | false => exact decide_eq_false fun z => by rw [(Say.text_has c x).mp z] at h; cases h
    rw [e]
    exact ite2 (fun c1 => ⟨_, rfl, hC c1 _ _ g3 rfl⟩) fun c1 => hC' (Bool.eq_false_iff.mpr c1) _ g3
  · have e : ys = (lets x).map fun c => V.str c.str := paired_eq hy
    subst e
    exact k D H2 s1 nD hD
end
end SD
namespace SD
/-! # Reading texts -/
/-- the sign at n, where it is one of al -/
def signAt (l : List Nat) (n : Nat) (al : List Nat) : Option Nat := match l[n]? with
  | some c => if c ∈ al then some c else none
  | none => none
def opens : List Nat := [48, 112, 113, 114, 126, 91, 40]
def codeL (c : Nat) : Ltr := if c = 112 then .p else if c = 113 then .q else .r
def codeO (c : Nat) : Op := if c = 38 then .conj else if c = 124 then .disj else .impl
/-- what is read from n on: the saying and the place behind it, or the place of the fault; none: out of breath -/
abbrev Rd1 : Type := Option (Sum (Say × Nat) Nat)
def rbind (r : Rd1) (f : Say → Nat → Rd1) : Rd1 := match r with
  | some (.inl (s, m)) => f s m
  | some (.inr e) => some (.inr e)
  | none => none
def sbind (o : Option Nat) (m : Nat) (f : Nat → Rd1) : Rd1 := match o with
  | some c => f c
  | none => some (.inr m)
def readF : Nat → List Nat → Nat → Rd1
  | 0, _, _ => none
  | k + 1, l, n => sbind (signAt l n opens) n fun c =>
    if c = 48 then some (.inl (.no, n + 1))
    else if c = 126 then rbind (readF k l (n + 1)) fun s m => some (.inl (.neg s, m))
    else if c = 91 then rbind (readF k l (n + 1)) fun s m => sbind (signAt l m [93]) m fun _ => some (.inl (.shown s, m + 1))
    else if ¬ c = 40 then some (.inl (.letter (codeL c), n + 1))
    else rbind (readF k l (n + 1)) fun s m => sbind (signAt l m [38, 124, 62]) m fun d => rbind (readF k l (m + 1)) fun t m2 => sbind (signAt l m2 [41]) m2 fun _ => some (.inl (.bin (codeO d) s t, m2 + 1))
theorem signAt_lt {l : List Nat} {n c : Nat} {al : List Nat} (h : signAt l n al = some c) : n < l.length ∧ c ∈ al ∧ l[n]? = some c := by
  unfold signAt at h
  cases e : l[n]? with
  | none => rw [e] at h; cases h
  | some d =>
    rw [e] at h
    simp only at h
    split at h
    · rename_i hd; injection h with h; subst h; exact ⟨(List.getElem?_eq_some_iff.mp e).1, hd, rfl⟩
    · cases h
theorem rbind_ok {r : Rd1} {f : Say → Nat → Rd1} {x : Say × Nat} (h : rbind r f = some (.inl x)) : ∃ s m, r = some (.inl (s, m)) ∧ f s m = some (.inl x) := by
  cases r with
  | none => cases h
  | some v => cases v with
    | inl p => exact ⟨p.1, p.2, rfl, h⟩
    | inr e => cases h
theorem sbind_ok {o : Option Nat} {m : Nat} {f : Nat → Rd1} {x : Say × Nat} (h : sbind o m f = some (.inl x)) : ∃ c, o = some c ∧ f c = some (.inl x) := by
  cases o with
  | none => cases h
  | some c => exact ⟨c, rfl, h⟩
theorem readF_le : ∀ {k : Nat} {l : List Nat} {n : Nat} {s : Say} {m : Nat}, readF k l n = some (.inl (s, m)) → m ≤ l.length
  | 0, _, _, _, _, h => by cases h
  | k + 1, l, n, s, m, h => by
    unfold readF at h
    obtain ⟨c, h1, h⟩ := sbind_ok h
    obtain ⟨hn, _, _⟩ := signAt_lt h1
    split at h
    · injection h with h; injection h with h; injection h with _ h; omega
    split at h
    · obtain ⟨t, m', h2, h⟩ := rbind_ok h
      have := readF_le h2
      injection h with h; injection h with h; injection h with _ h; omega
    split at h
    · obtain ⟨t, m', h2, h⟩ := rbind_ok h
      obtain ⟨d, h3, h⟩ := sbind_ok h
      have := (signAt_lt h3).1
      injection h with h; injection h with h; injection h with _ h; omega
    split at h
    · injection h with h; injection h with h; injection h with _ h; omega
    · obtain ⟨t, m', h2, h⟩ := rbind_ok h
      obtain ⟨d, h3, h⟩ := sbind_ok h
      obtain ⟨t2, m2, h4, h⟩ := rbind_ok h
      obtain ⟨d2, h5, h⟩ := sbind_ok h
      have := (signAt_lt h5).1
      injection h with h; injection h with h; injection h with _ h; omega
theorem drop_at {l : List Nat} {n c : Nat} {r : List Nat} (h : l.drop n = c :: r) : l[n]? = some c ∧ l.drop (n + 1) = r := by
  have h0 : (l.drop n)[0]? = some c := by rw [h]; rfl
  rw [List.getElem?_drop] at h0
  refine ⟨h0, ?_⟩
  rw [← List.drop_drop, h]; rfl
theorem signAt_of {l : List Nat} {n c : Nat} {r al : List Nat} (h : l.drop n = c :: r) (hc : c ∈ al) : signAt l n al = some c := by
  unfold signAt
  rw [(drop_at h).1]
  simp [hc]
theorem code_mem (c : Ltr) : c.code ∈ opens ∧ c.code ≠ 48 ∧ c.code ≠ 126 ∧ c.code ≠ 91 ∧ c.code ≠ 40 ∧ codeL c.code = c := by cases c <;> decide
theorem sign_mem (o : Op) : o.sign ∈ [38, 124, 62] ∧ codeO o.sign = o := by cases o <;> decide
theorem drop_more {l : List Nat} {n : Nat} {a b : List Nat} (h : l.drop n = a ++ b) : l.drop (n + a.length) = b := by
  rw [← List.drop_drop, h, List.drop_left]
theorem readF_text : ∀ (s : Say) (k : Nat) (l : List Nat) (n : Nat) (r : List Nat), s.ht < k → l.drop n = s.text ++ r → readF k l n = some (.inl (s, n + s.text.length))
  | s, 0, _, _, _, hk, _ => by omega
  | .no, k + 1, l, n, r, hk, h => by
    unfold readF
    rw [signAt_of (c := 48) (r := r) h (by decide)]
    simp [sbind, Say.text]
  | .letter c, k + 1, l, n, r, hk, h => by
    obtain ⟨h1, h2, h3, h4, h5, h6⟩ := code_mem c
    unfold readF
    rw [signAt_of (c := c.code) (r := r) h h1]
    simp [sbind, h2, h3, h4, h5, h6, Say.text]
  | .neg a, k + 1, l, n, r, hk, h => by
    unfold readF
    have h0 : l.drop n = 126 :: (a.text ++ r) := by rw [h]; rfl
    rw [signAt_of h0 (by decide)]
    have ih := readF_text a k l (n + 1) r (by simp only [Say.ht] at hk; omega) (drop_at h0).2
    simp [sbind, ih, rbind, Say.text]; omega
  | .shown a, k + 1, l, n, r, hk, h => by
    unfold readF
    have h0 : l.drop n = 91 :: (a.text ++ (93 :: r)) := by rw [h]; simp [Say.text]
    rw [signAt_of h0 (by decide)]
    have h1 := (drop_at h0).2
    have ih := readF_text a k l (n + 1) (93 :: r) (by simp only [Say.ht] at hk; omega) h1
    have h2 := signAt_of (al := [93]) (drop_more h1) (by decide)
    simp [sbind, ih, rbind, h2, Say.text]; omega
  | .bin o a b, k + 1, l, n, r, hk, h => by
    unfold readF
    have h0 : l.drop n = 40 :: (a.text ++ (o.sign :: (b.text ++ (41 :: r)))) := by rw [h]; simp [Say.text]
    rw [signAt_of h0 (by decide)]
    simp only [Say.ht] at hk
    have h1 := (drop_at h0).2
    have ih := readF_text a k l (n + 1) _ (by omega) h1
    have h2 := drop_more h1
    have s2 := signAt_of (al := [38, 124, 62]) h2 (sign_mem o).1
    have h3 := (drop_at h2).2
    have ih2 := readF_text b k l _ _ (by omega) h3
    have h4 := drop_more h3
    have s4 := signAt_of (al := [41]) h4 (by decide)
    simp only [sbind, if_neg (show ¬ 40 = 48 by decide), if_neg (show ¬ 40 = 126 by decide), if_neg (show ¬ 40 = 91 by decide), if_neg (show ¬ ¬ 40 = 40 by decide), ih, rbind, s2, ih2, s4, (sign_mem o).2, Say.text, List.length_cons, List.length_append]
    congr 4
    simp; omega
/-- the whole text -/
def readAll (k : Nat) (l : List Nat) : Option (Sum Say Nat) := match readF k l 0 with
  | some (.inl (s, m)) => if m < l.length then some (.inr m) else some (.inl s)
  | some (.inr e) => some (.inr e)
  | none => none
theorem readAll_text (s : Say) {k : Nat} (h : s.ht < k) : readAll k s.text = some (.inl s) := by
  unfold readAll
  rw [readF_text s k s.text 0 [] h (by simp)]
  simp
end SD
namespace SD
open PySem PySem.Spec PyProof.Rows L2 SX
theorem Rz.field {K : PySem.W.Frag} {H H1 H2 : Hp} {E : XK} {n : Nat} {d : Addr} (h : Rz K H E (.saying n)) (g : Same H H1) (g2 : Same H1 H2) (hd : H2 d = some (.xd [("place", .int n)])) : E (xc K "NoSaying") (some d) H2 := h _ _ _ (g.trans g2) ⟨rfl, d, rfl, hd⟩
section
variable {P : Program} {w : World} {K : PySem.W.Frag} {mg : Str → Option Value} {base : Heap}
/-! # reading -/
def spSignAt : Sp := fun vs H Q E => ∃ (l al : List Nat) (n : Nat), vs = [.str (S l), .int n, .str (S al)] ∧ n ≤ l.length ∧ l.length ≤ 10000 ∧ al.length ≤ 1000 ∧ (∀ c, signAt l n al = some c → ∀ H', Same H H' → Q (.str (S [c])) H') ∧ (signAt l n al = none → Rz K H E (.saying n))
theorem cl_sign_at (D : Df K mg "sign_at" "sign_at" "sign_at" s_sign_at ["text", "at", "allowed"]) (T : Tx mg) (X : Xi P w K mg base "NoSaying" "place") : Cl P w K mg base (L2.CX P w) 3 "sign_at" (spSignAt (K := K)) := by
  refine D.okX c_sign_at (fun vs H Q E h => ?_) fun f cdv A outer s H vs Q E hr h => ?_
  · obtain ⟨l, al, n, rfl, _⟩ := h
    rfl
  obtain ⟨l, al, n, rfl, hn, hl, hal, k1, k2⟩ := h
  refine ⟨_, pss_cons (ps_if (PW.pt (pw_or (pt_cmpR op_eq (pv 1) (pe_callB call_len_str rfl T.len PySem.boot_len (pa_cons (pv 0) pa_nil)) (nomark _)) (pw_or1 (pt_cmpR op_notIn_sign (pe_ix ix_str (pv 0) (pv 1) (fun _ _ => rfl)) (pv 2) rfl))))
      (pss_one (ps_raise rfl (takes_of rfl rfl rfl rfl) (pmk1 X hr (by omega) (pa_cons (pv 1) pa_nil)))) pss_nil)
    (pss_one (ps_ret (pe_ix ix_str (pv 0) (pv 1) (fun _ _ => rfl)))), ?_⟩
  have raise : signAt l n al = none → ∀ σ : L2.St, σ[1]? = some (some (.int n)) → tCons (tVar 1) tNil σ H fun vs H1 => ∃ y, vs = [y] ∧ ∀ d H2, Same H1 H2 → H2 d = some (.xd [("place", y)]) → E (xc K "NoSaying") (some d) H2 :=
    fun e σ hσ => ⟨_, hσ, _, rfl, fun d H2 g2 hd => (k2 e).field (Same.refl _) g2 hd⟩
  refine ⟨_, rfl, _, rfl, _, rfl, szm (n := (S l).length) (by rw [S_length]; omega), rfl, _, rfl, ?_⟩
  have e1 : decide (V.int (n : Int) = V.int ((S l).length : Int)) = decide (n = l.length) := by
    rw [S_length]
    exact decide_eq_decide.mpr ⟨fun e => by injection e with e; omega, fun e => by rw [e]⟩
  rw [e1]
  refine ite2 (fun c => ?_) fun c => ?_
  · have c' := of_decide_eq_true c
    have e : signAt l n al = none := by unfold signAt; rw [List.getElem?_eq_none (by omega)]
    first | exact raise e _ rfl | exact iteT (raise e _ rfl)
  · have hlt : n < l.length := by
      have : ¬ n = l.length := fun e => c (decide_eq_true e)
      omega
    have hc : l[n]? = some l[n] := List.getElem?_eq_getElem hlt
    have hix : atI (S l).cps.toList (n : Int) = some l[n] := atI_nat (j := n) hc
    have e2 : decide (l[n] ∈ (S al).cps.toList) = decide (l[n] ∈ al) := rfl
    refine ⟨_, rfl, _, rfl, _, _, _, rfl, rfl, szm (n := (S l).length) (by rw [S_length]; omega), hix, _, rfl, l[n], S al, rfl, rfl, _, rfl, ?_⟩
    rw [e2]
    by_cases hm : l[n] ∈ al
    · have e : signAt l n al = some l[n] := by unfold signAt; rw [hc]; simp [hm]
      refine ite2 (fun z => by rw [decide_eq_true hm] at z; cases z) fun _ => ?_
      exact ⟨_, rfl, _, rfl, _, _, _, rfl, rfl, szm (n := (S l).length) (by rw [S_length]; omega), hix, k1 _ e H (Same.refl _)⟩
    · have e : signAt l n al = none := by unfold signAt; rw [hc]; simp [hm]
      refine ite2 (fun _ => ?_) fun z => absurd (by rw [decide_eq_false hm]; rfl) z
      first | exact raise e _ rfl | exact iteT (raise e _ rfl)
def spRead (k : Nat) : Sp := fun vs H Q E => ∃ (l : List Nat) (n : Nat), vs = [.str (S l), .int n] ∧ n ≤ l.length ∧ l.length ≤ 10000 ∧ readF k l n ≠ none ∧
  (∀ s m, readF k l n = some (.inl (s, m)) → ∀ (q : Addr) (v : V) (H' : Hp), Same H H' → H' q = some (.tup [v, .int m]) → SayAt H' s v → Q (.ref q) H') ∧ (∀ e, readF k l n = some (.inr e) → Rz K H E (.saying e))
theorem q_sg {σ : L2.St} {H : Hp} {i c d : Nat} {wd : Str} {Q : Bool → Hp → Prop} (hσ : σ[i]? = some (some (.str (S [c])))) (hw : wd = S [d]) (q : Q (decide (c = d)) H) : tTest (tOp rEq (tVar i) (tC (.str wd))) σ H Q := by
  subst hw
  refine q_slot hσ ?_
  rw [show decide (S [c] = S [d]) = decide (c = d) from decide_eq_decide.mpr ⟨fun e => by have := S_inj e; injection this, fun e => by rw [e]⟩]
  exact q
theorem opens_S : ("0pqr~[(" : Str) = S opens ∧ ("]" : Str) = S [93] ∧ ("&|>" : Str) = S [38, 124, 62] ∧ (")" : Str) = S [41] := by decide +kernel
theorem code_str {c : Nat} (h : c ∈ opens) (h1 : c ≠ 48) (h2 : c ≠ 126) (h3 : c ≠ 91) (h4 : c ≠ 40) : S [c] = (codeL c).str := by
  simp only [opens, List.mem_cons, List.not_mem_nil, or_false] at h
  rcases h with rfl | rfl | rfl | rfl | rfl | rfl | rfl <;> first | rfl | (exact absurd rfl (by assumption))
theorem cl_read_from (D : Df K mg "read_from" "read_from" "read_from" s_read_from ["text", "at"]) (cS : Cl P w K mg base (L2.CX P w) 3 "sign_at" (spSignAt (K := K))) (TS : TabAt K w mg "WORDS_texts" [("&", .str "and"), ("|", .str "or"), (">", .str "if")]) : ∀ k : Nat, Cl P w K mg base (L2.CX P w) (k + 3) "read_from" (spRead (K := K) k)
  | 0 => D.no fun vs H Q E h => by
    obtain ⟨l, n, _, _, _, h, _⟩ := h
    exact h rfl
  | k + 1 => by
    have ih := cl_read_from D cS TS k
    refine Cl.mono (j := k + 3 + 1) (D.okX c_read_from (fun vs H Q E h => ?_) fun f cdv A outer s H vs Q E hr h => ?_) (by omega)
    · obtain ⟨l, n, rfl, _⟩ := h
      rfl
    obtain ⟨l, n, rfl, hn, hl, hnn, kQ, kE⟩ := h
    obtain ⟨aS, es, nS, mS, kS, vS⟩ := TS.ex
    have ps : Passes (L2.CX P w) (cxOf (L2.CX P w) P w K mg base ["text", "at", "sign", "word", "one", "middle", "other", "past", "part"] "read_from" (defScope s_read_from) f cdv A outer s H E) E := passes_call (takes_of rfl rfl rfl rfl) fun _ _ _ _ h => h
    refine ⟨_, pss_cons (ps_set (i := 2) c_read_from.nd rfl (Or.inl rfl) (pe_cl (E := E) cS hr (by omega) ps (pa_cons (pv 0) (pa_cons (pv 1) (pa_cons pe_str pa_nil)))))
      (pss_cons (ps_if (pt_cmpR op_eq (pv 2) pe_str (nomark _)) (pss_one (ps_ret (pe_tup (pa_cons (pe_tup (pa_cons pe_str pa_nil)) (pa_cons (pe_op op_add (pv 1) pe_int) pa_nil))))) pss_nil)
      (pss_cons (ps_if (pt_cmpR op_eq (pv 2) pe_str (nomark _))
        (pss_cons (ps_asg (pe_cl (E := E) ih hr (by omega) ps (pa_cons (pv 0) (pa_cons (pe_op op_add (pv 1) pe_int) pa_nil))) (pg_tup rfl (pgs_cons (pg_name (i := 8) c_read_from.nd rfl (Or.inl rfl)) (pgs_cons (pg_name (i := 7) c_read_from.nd rfl (Or.inl rfl)) pgs_nil))))
        (pss_one (ps_ret (pe_tup (pa_cons (pe_tup (pa_cons pe_str (pa_cons (pv 8) pa_nil))) (pa_cons (pv 7) pa_nil)))))) pss_nil)
      (pss_cons (ps_if (pt_cmpR op_eq (pv 2) pe_str (nomark _))
        (pss_cons (ps_asg (pe_cl (E := E) ih hr (by omega) ps (pa_cons (pv 0) (pa_cons (pe_op op_add (pv 1) pe_int) pa_nil))) (pg_tup rfl (pgs_cons (pg_name (i := 8) c_read_from.nd rfl (Or.inl rfl)) (pgs_cons (pg_name (i := 7) c_read_from.nd rfl (Or.inl rfl)) pgs_nil))))
        (pss_cons (ps_expr (pe_cl (E := E) cS hr (by omega) ps (pa_cons (pv 0) (pa_cons (pv 7) (pa_cons pe_str pa_nil)))))
        (pss_one (ps_ret (pe_tup (pa_cons (pe_tup (pa_cons pe_str (pa_cons (pv 8) pa_nil))) (pa_cons (pe_op op_add (pv 7) pe_int) pa_nil))))))) pss_nil)
      (pss_cons (ps_if (pt_cmpR op_ne (pv 2) pe_str (nomark _)) (pss_one (ps_ret (pe_tup (pa_cons (pe_tup (pa_cons pe_str (pa_cons (pv 2) pa_nil))) (pa_cons (pe_op op_add (pv 1) pe_int) pa_nil))))) pss_nil)
      (pss_cons (ps_asg (pe_cl (E := E) ih hr (by omega) ps (pa_cons (pv 0) (pa_cons (pe_op op_add (pv 1) pe_int) pa_nil))) (pg_tup rfl (pgs_cons (pg_name (i := 4) c_read_from.nd rfl (Or.inl rfl)) (pgs_cons (pg_name (i := 5) c_read_from.nd rfl (Or.inl rfl)) pgs_nil))))
      (pss_cons (ps_set (i := 3) c_read_from.nd rfl (Or.inl rfl) (pe_ix ix_kdict (pe_glob (v := .ref aS) rfl mS rfl) (pe_cl (E := E) cS hr (by omega) ps (pa_cons (pv 0) (pa_cons (pv 5) (pa_cons pe_str pa_nil)))) (fun _ _ => rfl)))
      (pss_cons (ps_asg (pe_cl (E := E) ih hr (by omega) ps (pa_cons (pv 0) (pa_cons (pe_op op_add (pv 5) pe_int) pa_nil))) (pg_tup rfl (pgs_cons (pg_name (i := 6) c_read_from.nd rfl (Or.inl rfl)) (pgs_cons (pg_name (i := 7) c_read_from.nd rfl (Or.inl rfl)) pgs_nil))))
      (pss_cons (ps_expr (pe_cl (E := E) cS hr (by omega) ps (pa_cons (pv 0) (pa_cons (pv 7) (pa_cons pe_str pa_nil)))))
      (pss_one (ps_ret (pe_tup (pa_cons (pe_tup (pa_cons (pv 3) (pa_cons (pv 4) (pa_cons (pv 6) pa_nil)))) (pa_cons (pe_op op_add (pv 7) pe_int) pa_nil))))))))))))), ?_⟩
    have eqF : readF (k + 1) l n = sbind (signAt l n opens) n fun c =>
      if c = 48 then some (.inl (.no, n + 1))
      else if c = 126 then rbind (readF k l (n + 1)) fun s m => some (.inl (.neg s, m))
      else if c = 91 then rbind (readF k l (n + 1)) fun s m => sbind (signAt l m [93]) m fun _ => some (.inl (.shown s, m + 1))
      else if ¬ c = 40 then some (.inl (.letter (codeL c), n + 1))
      else rbind (readF k l (n + 1)) fun s m => sbind (signAt l m [38, 124, 62]) m fun d => rbind (readF k l (m + 1)) fun t m2 => sbind (signAt l m2 [41]) m2 fun _ => some (.inl (.bin (codeO d) s t, m2 + 1)) := rfl
    rw [eqF] at hnn kQ kE
    refine ⟨_, rfl, _, rfl, l, opens, n, by rw [opens_S.1], hn, hl, by decide, fun c hc => ?_, fun hc => ?_⟩
    rotate_left
    · rw [hc] at kE; exact kE _ rfl
    intro H1 g1
    rw [hc] at hnn kQ kE
    obtain ⟨hlt, hcm, _⟩ := signAt_lt hc
    simp only [sbind] at hnn kQ kE
    have cast1 : ∀ m : Nat, ((m + 1 : Nat) : Int) = (m : Int) + 1 := fun m => by omega
    refine q_sg rfl S_lit.1.1 (ite2 (fun c1 => ?_) fun c1 => ?_)
    · have c1 := of_decide_eq_true c1
      rw [if_pos c1] at kQ
      refine ⟨sz (n := 1) (by decide), fun a na => ⟨_, rfl, _, _, rfl, rfl, sz (n := 2) (by decide), fun q nq => ?_⟩⟩
      have g2 := same_new na (.tup [.str "no"])
      have g3 := same_new nq (.tup [.ref a, .int ((n : Int) + 1)])
      exact kQ _ _ rfl q _ _ (g1.trans (g2.trans g3)) (by rw [cast1]; exact upd_same) ⟨a, rfl, g3 _ _ upd_same⟩
    have c1 : ¬ c = 48 := fun e => c1 (decide_eq_true e)
    rw [if_neg c1] at hnn kQ kE
    refine q_sg rfl S_lit.1.2.1 (ite2 (fun c2 => ?_) fun c2 => ?_)
    · have c2 := of_decide_eq_true c2
      rw [if_pos c2] at hnn kQ kE
      refine ⟨_, rfl, _, rfl, _, _, rfl, rfl, l, n + 1, by rw [cast1], by omega, hl, fun e => hnn (by rw [e]; rfl), fun s m e q v H2 g2 hq hs => ?_, fun er e => ?_⟩
      · rw [e] at kQ
        refine ⟨q, _, rfl, SqT.of hq, rfl, _, _, rfl, _, _, rfl, rfl, ?_⟩
        refine ⟨_, rfl, sz (n := 2) (by decide), fun a na => ⟨_, rfl, sz (n := 2) (by decide), fun r nr => ?_⟩⟩
        have g3 := same_new na (.tup [.str "not", v])
        have g4 := same_new nr (.tup [.ref a, .int m])
        exact kQ _ _ rfl r _ _ (g1.trans (g2.trans (g3.trans g4))) upd_same ⟨a, v, rfl, g4 _ _ upd_same, hs.mono (g3.trans g4)⟩
      · rw [e] at kE; exact (kE _ rfl).mono g1
    have c2 : ¬ c = 126 := fun e => c2 (decide_eq_true e)
    rw [if_neg c2] at hnn kQ kE
    refine q_sg rfl S_lit.1.2.2.1 (ite2 (fun c3 => ?_) fun c3 => ?_)
    · have c3 := of_decide_eq_true c3
      rw [if_pos c3] at hnn kQ kE
      refine ⟨_, rfl, _, rfl, _, _, rfl, rfl, l, n + 1, by rw [cast1], by omega, hl, fun e => hnn (by rw [e]; rfl), fun s m e q v H2 g2 hq hs => ?_, fun er e => ?_⟩
      · have hm := readF_le e
        rw [e] at kQ kE
        refine ⟨q, _, rfl, SqT.of hq, rfl, _, _, rfl, _, _, rfl, rfl, ?_⟩
        refine ⟨_, rfl, _, rfl, l, [93], m, by rw [opens_S.2.1], hm, hl, by decide, fun d hd H3 g3 => ?_, fun hd => ?_⟩
        · simp only [rbind, hd] at kQ
          refine ⟨_, rfl, sz (n := 2) (by decide), fun a na => ⟨_, rfl, _, _, rfl, rfl, sz (n := 2) (by decide), fun r nr => ?_⟩⟩
          have g4 := same_new na (.tup [.str "shown", v])
          have g5 := same_new nr (.tup [.ref a, .int ((m : Int) + 1)])
          exact kQ _ _ rfl r _ _ (g1.trans (g2.trans (g3.trans (g4.trans g5)))) (by rw [cast1]; exact upd_same) ⟨a, v, rfl, g5 _ _ upd_same, hs.mono (g3.trans (g4.trans g5))⟩
        · simp only [rbind, hd] at kE
          exact (kE _ rfl).mono (g1.trans g2)
      · rw [e] at kE; exact (kE _ rfl).mono g1
    have c3 : ¬ c = 91 := fun e => c3 (decide_eq_true e)
    rw [if_neg c3] at hnn kQ kE
    refine ⟨_, rfl, rfl, _, rfl, ?_⟩
    rw [show decide (V.str (S [c]) = V.str "(") = decide (c = 40) by rw [S_lit.2.1]; exact decide_eq_decide.mpr ⟨fun e => by injection e with e; have := S_inj e; injection this, fun e => by rw [e]⟩]
    by_cases c4 : c = 40
    rotate_left
    · rw [if_pos c4] at kQ
      refine ite2 (fun _ => ?_) fun z => absurd (by rw [decide_eq_false c4]; rfl) z
      refine ⟨_, rfl, sz (n := 2) (by decide), fun a na => ⟨_, rfl, _, _, rfl, rfl, sz (n := 2) (by decide), fun q nq => ?_⟩⟩
      have g2 := same_new na (.tup [.str "letter", .str (S [c])])
      have g3 := same_new nq (.tup [.ref a, .int ((n : Int) + 1)])
      exact kQ _ _ rfl q _ _ (g1.trans (g2.trans g3)) (by rw [cast1]; exact upd_same) ⟨a, rfl, by rw [← code_str hcm c1 c2 c3 c4]; exact g3 _ _ upd_same⟩
    refine ite2 (fun z => by rw [decide_eq_true c4] at z; cases z) fun _ => ?_
    rw [if_neg (fun z => z c4)] at hnn kQ kE
    refine ⟨_, rfl, _, rfl, _, _, rfl, rfl, l, n + 1, by rw [cast1], by omega, hl, fun e => hnn (by rw [e]; rfl), fun s m e q v H2 g2 hq hs => ?_, fun er e => ?_⟩
    rotate_left
    · rw [e] at kE; exact (kE _ rfl).mono g1
    have hm := readF_le e
    rw [e] at hnn kQ kE
    simp only [rbind] at hnn kQ kE
    refine ⟨q, _, rfl, SqT.of hq, rfl, _, _, rfl, _, _, rfl, rfl, ?_⟩
    refine ⟨_, rfl, _, rfl, l, [38, 124, 62], m, by rw [opens_S.2.2.1], hm, hl, by decide, fun d hd H3 g3 => ?_, fun hd => ?_⟩
    rotate_left
    · rw [hd] at kE; exact (kE _ rfl).mono (g1.trans g2)
    rw [hd] at hnn kQ kE
    simp only [sbind] at hnn kQ kE
    obtain ⟨hm2, hdm, _⟩ := signAt_lt hd
    have wd : KDct K w aS (S [d]) (.str (codeO d).word) := by
      simp only [List.mem_cons, List.not_mem_nil, or_false] at hdm
      rcases hdm with rfl | rfl | rfl
      · have := vS ("&", .str "and") (by simp); rw [S_lit.2.2.2.1] at this; exact this
      · have := vS ("|", .str "or") (by simp); rw [S_lit.2.2.2.2.1] at this; exact this
      · have := vS (">", .str "if") (by simp); rw [S_lit.2.2.2.2.2] at this; exact this
    refine ⟨aS, _, _, rfl, rfl, wd, ?_⟩
    refine ⟨_, rfl, _, rfl, _, _, rfl, rfl, l, m + 1, by rw [cast1], by omega, hl, fun e => hnn (by rw [e]), fun t m2 e2 q2 u H4 g4 hq2 ht => ?_, fun er e2 => ?_⟩
    rotate_left
    · rw [e2] at kE; exact (kE _ rfl).mono (g1.trans (g2.trans g3))
    have hm3 := readF_le e2
    rw [e2] at kQ kE
    simp only at kQ kE
    refine ⟨q2, _, rfl, SqT.of hq2, rfl, _, _, rfl, _, _, rfl, rfl, ?_⟩
    refine ⟨_, rfl, _, rfl, l, [41], m2, by rw [opens_S.2.2.2], hm3, hl, by decide, fun d2 hd2 H5 g5 => ?_, fun hd2 => ?_⟩
    rotate_left
    · rw [hd2] at kE; exact (kE _ rfl).mono (g1.trans (g2.trans (g3.trans g4)))
    rw [hd2] at kQ
    refine ⟨_, rfl, _, rfl, _, rfl, sz (n := 3) (by decide), fun a na => ⟨_, rfl, _, _, rfl, rfl, sz (n := 2) (by decide), fun r nr => ?_⟩⟩
    have g6 := same_new na (.tup [.str (codeO d).word, v, u])
    have g7 := same_new nr (.tup [.ref a, .int ((m2 : Int) + 1)])
    exact kQ _ _ rfl r _ _ (g1.trans (g2.trans (g3.trans (g4.trans (g5.trans (g6.trans g7)))))) (by rw [cast1]; exact upd_same) ⟨a, v, u, rfl, g7 _ _ upd_same, hs.mono (g3.trans (g4.trans (g5.trans (g6.trans g7)))), ht.mono (g5.trans (g6.trans g7))⟩
def spReadAll (k : Nat) : Sp := fun vs H Q E => ∃ l : List Nat, vs = [.str (S l)] ∧ l.length ≤ 10000 ∧ readAll k l ≠ none ∧
  (∀ s, readAll k l = some (.inl s) → ∀ (v : V) (H' : Hp), Same H H' → SayAt H' s v → Q v H') ∧ (∀ e, readAll k l = some (.inr e) → Rz K H E (.saying e))
theorem cl_read (k : Nat) (D : Df K mg "read" "read" "read" s_read ["text"]) (T : Tx mg) (cR : Cl P w K mg base (L2.CX P w) (k + 3) "read_from" (spRead (K := K) k)) (X : Xi P w K mg base "NoSaying" "place") : Cl P w K mg base (L2.CX P w) (k + 4) "read" (spReadAll (K := K) k) := by
  refine D.okX c_read (fun vs H Q E h => ?_) fun f cdv A outer s H vs Q E hr h => ?_
  · obtain ⟨l, rfl, _⟩ := h
    rfl
  obtain ⟨l, rfl, hl, hnn, kQ, kE⟩ := h
  refine ⟨_, pss_cons (ps_asg (pe_cl (E := E) cR hr (by omega) (passes_call (takes_of rfl rfl rfl rfl) fun _ _ _ _ h => h) (pa_cons (pv 0) (pa_cons pe_int pa_nil))) (pg_tup rfl (pgs_cons (pg_name (i := 1) c_read.nd rfl (Or.inl rfl)) (pgs_cons (pg_name (i := 2) c_read.nd rfl (Or.inl rfl)) pgs_nil))))
    (pss_cons (ps_if (pt_cmpR op_lt (pv 2) (pe_callB call_len_str rfl T.len PySem.boot_len (pa_cons (pv 0) pa_nil)) (nomark _)) (pss_one (ps_raise rfl (takes_of rfl rfl rfl rfl) (pmk1 X hr (by omega) (pa_cons (pv 2) pa_nil)))) pss_nil)
    (pss_one (ps_ret (pv 1)))), ?_⟩
  unfold readAll at hnn kQ kE
  refine ⟨_, rfl, l, 0, rfl, by omega, hl, fun e => hnn (by rw [e]), fun x m e q v H1 g1 hq hx => ?_, fun er e => ?_⟩
  rotate_left
  · rw [e] at kE; exact kE _ rfl
  rw [e] at kQ kE
  refine ⟨q, _, rfl, SqT.of hq, rfl, _, _, rfl, _, _, rfl, rfl, ?_⟩
  refine ⟨_, rfl, _, rfl, _, rfl, szm (n := (S l).length) (by rw [S_length]; omega), _, _, rfl, rfl, _, rfl, ?_⟩
  rw [show decide (((m : Nat) : Int) < ((S l).length : Int)) = decide (m < l.length) by rw [S_length]; exact decide_eq_decide.mpr (by omega)]
  refine ite2 (fun c => ?_) fun c => ?_
  · simp only [if_pos (of_decide_eq_true c)] at kE
    exact ⟨_, rfl, _, rfl, fun d H2 g2 hd => (kE _ rfl).field g1 g2 hd⟩
  · simp only [if_neg (fun z => c (decide_eq_true z))] at kQ
    exact ⟨_, rfl, kQ _ rfl v H1 g1 hx⟩
end
end SD
/-! # list(reversed(a list)) -/
namespace SD
namespace LR
open PySem RT
section
variable {prog : Program} {w : World} {A : Around} {E : Value → Shared → Prop} {s : Shared}
theorem extend_rev {it l S : Addr} {items : Array Value} {res : Value} {c₀ : Nat} {R : Result → Shared → Prop} (hh : A.handled = none) (hit : s.heap.IsRevIter it l ((items.size : Int) - 1)) (hl : s.heap.IsList l items) (hne : l ≠ it) (hn : items.size ≤ sizeLine) (hSi : S ≠ it) (hSl : S ≠ l)
    (hS : s.heap.get? S = some { cls := .type "list", data := .seq #[] c₀ })
    (hR : ∀ (h' : Heap) (tk : Nat) (acc : Array Value) (c' : Nat), (∀ b o, b ≠ S → b ≠ it → s.heap.get? b = some o → h'.get? b = some o) → h'.get? S = some { cls := .type "list", dict := none, data := .seq acc c', slots := #[] } →
      ItemsOf (fun i v => items[items.size - 1 - i]? = some v) acc items.size → R (.ok (.ret res)) { s with heap := h', toks := tk }) :
    wpAny (model prog w) A.in1 (Builtin.List.listExtendWith (.ref S) (.ref it) res)
      (fun fin s' => match fin with | .done f => R (.ok f) s' | .again c' => c'.quiet = true ∧ codeAny (model prog w) A c' R s') (fun e s' => R (.error e) s') s := by
  have W := (Walks.listRev (prog := prog) (w := w) (A := A.in1) hh it l hne items).toS
  have hSf : S ∉ [it, l] := by simp only [List.mem_cons, List.not_mem_nil, or_false, not_or]; exact ⟨hSi, hSl⟩
  have hT : s.TypeIs (.ref it) "list_reverseiterator" := Heap.IsRevIter.typeIs (s := s) hit
  have h1 : Builtin.List.listSameRef (.ref S) (.ref it) = false := by simp [Builtin.List.listSameRef, hSi]
  unfold Builtin.List.listExtendWith
  refine wpAny_bind (wpAny_typeOf hT ?_)
  rw [if_neg (by rw [h1]; decide)]
  refine wpAny_bind (wpAny_pyIter_revIter (s := s) hit ?_)
  refine wpAny_bind (wpAny_holding ?_)
  unfold Builtin.List.listLengthHint
  refine wpAny_bind (wpAny_specialOf hT nolen_lri ?_)
  show wpAny _ A.in1 (specialOf (Value.ref it) (Str.ofString "__length_hint__") >>= _) _ _ _
  refine wpAny_bind (wpAny_specialOf hT hint_lri ?_)
  generalize hid : ("list_reverseiterator.__length_hint__" : String) = id0
  wp_delta
  rw [show splitId id0 = some ("list_reverseiterator", "__length_hint__") from by subst hid; decide +kernel]
  subst hid
  refine wpAny_bind (wpAny_isInstance (b := true) hT (by rw [isSubtype_type]; kernel_rfl) ?_)
  refine wpAny_pure ?_
  rw [if_neg (by decide)]
  have e0 : ((items.size : Nat) : Int) - 1 - ((0 : Nat) : Int) = (items.size : Int) - 1 := by omega
  refine wpAny_pure ⟨plainId_quiet F.plain_extend_loop _, codeAny_extend_loopS W hn _ hSf _ items.size 0 _ _ _ rfl (Nat.zero_le _) ⟨Nat.zero_le _, by rw [e0]; exact hit, hl⟩ hS (ItemsOf.nil _) fun s' acc' c' hm hS' hacc => ?_⟩
  rw [Moved.eq_with hm]
  refine hR s'.heap s'.toks acc' c' (fun b o hb hb2 e => hm.heap b o (fun hmem => ?_) e) hS' hacc
  rcases List.mem_cons.mp hmem with e' | hmem
  · exact hb e'
  · exact hb2 (List.mem_singleton.mp hmem)
theorem init_rev {it l S : Addr} {items : Array Value} {R : Result → Shared → Prop} (hh : A.handled = none) (hit : s.heap.IsRevIter it l ((items.size : Int) - 1)) (hl : s.heap.IsList l items) (hne : l ≠ it) (hn : items.size ≤ sizeLine) (hSi : S ≠ it) (hSl : S ≠ l)
    (hS : s.heap.get? S = some { cls := .type "list", data := .seq #[] })
    (hR : ∀ (h' : Heap) (tk : Nat) (acc : Array Value) (c' : Nat), (∀ b o, b ≠ S → b ≠ it → s.heap.get? b = some o → h'.get? b = some o) → h'.get? S = some { cls := .type "list", dict := none, data := .seq acc c', slots := #[] } →
      ItemsOf (fun i v => items[items.size - 1 - i]? = some v) acc items.size → R (.ok (.ret .none)) { s with heap := h', toks := tk }) :
    wpAny (model prog w) A.in1 (Builtin.«list.__init__» ⟨[.ref S, .ref it], []⟩)
      (fun fin s' => match fin with | .done f => R (.ok f) s' | .again c' => c'.quiet = true ∧ codeAny (model prog w) A c' R s') (fun e s' => R (.error e) s') s := by
  show wpAny _ A.in1 (do let old ← Builtin.List.listItems (.ref S); Builtin.List.listUpdate (.ref S) (fun _ => #[]); letGo old.toList.reverse; Builtin.List.listExtendWith (.ref S) (.ref it) .none) _ _ s
  refine wpAny_bind ?_
  unfold Builtin.List.listItems
  refine wpAny_bind (wpAny_seqItems hS rfl (wpAny_pure ?_))
  show wpAny _ A.in1 (updateSeq S (fun _ => #[]) >>= fun _ => letGo (#[] : Array Value).toList.reverse >>= fun _ => Builtin.List.listExtendWith (.ref S) (.ref it) .none) _ _ s
  refine wpAny_bind (wpAny_updateSeq hS rfl ?_)
  have hS₂ := Heap.get?_update_self (Obj.mapSeq (fun _ => (#[] : Array Value))) hS rfl
  have oth : ∀ b o, b ≠ S → s.heap.get? b = some o → (s.heap.update S (Obj.mapSeq (fun _ => (#[] : Array Value)))).get? b = some o :=
    fun b o hb e => (Heap.get?_update_other _ _ (Ne.symm hb)).trans e
  refine wpAny_bind (wpAny_letGo ?_)
  obtain ⟨ol, hol, hl1, nl, hl2⟩ := hl
  exact extend_rev hh (hit.at fun o e => oth _ _ (Ne.symm hSi) e) ⟨ol, oth _ _ (Ne.symm hSl) hol, hl1, nl, hl2⟩ hne hn hSi hSl hS₂ fun h' tk acc c' hk e hi => hR h' tk acc c' (fun b o hb hb2 q => hk b o hb hb2 (oth _ _ hb q)) e hi
theorem call_list_rev {it l : Addr} {items : Array Value} {Q : Value → Shared → Prop} (hh : A.handled = none) (hit : s.heap.IsRevIter it l ((items.size : Int) - 1)) (hl : s.heap.IsList l items) (hne : l ≠ it) (hn : items.size ≤ sizeLine)
    (hQ : ∀ (h' : Heap) (tk : Nat) (acc : Array Value) (c' : Nat), (∀ b o, b ≠ it → s.heap.get? b = some o → h'.get? b = some o) → h'.get? s.heap.objs.size = some { cls := .type "list", dict := none, data := .seq acc c', slots := #[] } →
      ItemsOf (fun i v => items[items.size - 1 - i]? = some v) acc items.size → Q (.ref s.heap.objs.size) { s with heap := h', toks := tk }) :
    wpAny (model prog w) A (call (.type "list") [.ref it]) Q E s := by
  obtain ⟨oi, hoi, _⟩ := id hit
  obtain ⟨ol, hol, _⟩ := id hl
  have hSi : s.heap.objs.size ≠ it := Nat.ne_of_gt (Heap.lt_size hoi)
  have hSl : s.heap.objs.size ≠ l := Nat.ne_of_gt (Heap.lt_size hol)
  refine callType_codes (Q₁ := fun obj s₁ => obj = .ref s.heap.objs.size ∧ s₁ = { s with heap := s.heap.push { cls := .type "list", data := .seq #[] } }) F.called_list (F.typeCall_list_1 _) F.entry_list_init
    (code_list_new _ ⟨rfl, rfl⟩) fun obj s₁ h₁ => ?_
  obtain ⟨rfl, rfl⟩ := h₁
  have hS : (s.heap.push { cls := .type "list", data := .seq #[] }).get? s.heap.objs.size = some { cls := .type "list", data := .seq #[] } := Heap.get?_push_size _ rfl
  refine ⟨⟨_, hS, rfl⟩, F.args_list_init_2 _ _, init_rev (A := A.in1) (s := { s with heap := s.heap.push { cls := .type "list", data := .seq #[] } }) hh (hit.at fun o e => Heap.get?_push_of_some _ e) (hl.push _) hne hn hSi hSl hS fun h' tk acc c' hk e hi => ?_⟩
  exact ⟨rfl, hQ h' tk acc c' (fun b o hb q => hk b o (Nat.ne_of_lt (Heap.lt_size q)) hb (Heap.get?_push_of_some _ q)) e hi⟩
end
end LR
open PySem PySem.Spec PyProof.Rows L2
/-- list(reversed(x)), x a list: a new list -/
def tLstRev (K : PySem.W.Frag) (te : TE) : TE := fun σ H Q => te σ H fun v H1 => ∃ (a : Addr) (xs : List V), v = .ref a ∧ SqL K H1 a xs ∧ ∀ q, H1 q = none → Q (.ref q) (upd H1 q (.lst xs.reverse))
section
variable {X : Cx}
theorem pe_lstRev {e : Expr} {te : TE} {p p2 pos pos2 : Pos} (hc : X.calm = true) (hg : Gl X "list") (hm : X.mg "list" = none) (hg2 : Gl X "reversed") (hm2 : X.mg "reversed" = none) (he : PE X e te)
    (hs : starEach [e] X.env = (false, eval e X.env) :: starEach [] X.env := by rfl)
    (hs2 : starEach [.Call (.Name "reversed" p2) [e] [] pos2] X.env = (false, eval (.Call (.Name "reversed" p2) [e] [] pos2) X.env) :: starEach [] X.env := by rfl) :
    PE X (.Call (.Name "list" p) [.Call (.Name "reversed" p2) [e] [] pos2] [] pos) (tLstRev X.K te) := by
  refine ⟨fun pins s σ H Q I h => ?_⟩
  refine Call_ (ld_blt I hg hm boot_list (PyProof.Rows.callWith_type1 (args_cons (Call_ (ld_blt I hg2 hm2 PyProof.Rows.boot_reversed (PyProof.Rows.callWith_type1 (args_cons (thn (he.run pins s σ H _ I h) fun u s1 ⟨v, H1, I1, r1, q1⟩ => args_nil ?_) hs) hs rfl))) hs2) hs2 rfl))
  obtain ⟨a, xs, ev, hq, q⟩ := q1
  subst ev
  obtain rfl : u = Value.ref a := r1
  obtain ⟨its, rv, p', hz⟩ := I1.list hq
  refine call_reversed_list p'.isList (args_nil ?_)
  have k0 : ∀ b o, s1.heap.get? b = some o → (s1.heap.push (revObj a ((its.toArray.size : Int) - 1))).get? b = some o := fun b o e => Heap.get?_push_of_some _ e
  have I2 : Inv X pins σ H1 { s1 with heap := s1.heap.push (revObj a ((its.toArray.size : Int) - 1)) } := I1.kept (t' := s1.toks) k0
  obtain ⟨f0, f1, f2, f3, f4, f5⟩ := I1.fpOk (H' := H1) (b := s1.heap.objs.size) (Nat.le_refl _) (I1.hok.fresh (Nat.le_refl _))
  have hl := p'.isList
  obtain ⟨ol, hol, _⟩ := id hl
  have hne : a ≠ s1.heap.objs.size := Nat.ne_of_lt (Heap.lt_size hol)
  have hn : its.toArray.size ≤ sizeLine := by rw [List.size_toArray, ← rv.length]; exact hz
  refine LR.call_list_rev (s := { s1 with heap := s1.heap.push (revObj a ((its.toArray.size : Int) - 1)) }) (I1.ok.hd hc) ⟨_, Heap.get?_push_size _ rfl, rfl, rfl⟩ (hl.push _) hne hn fun h' tk acc c' hk e hi => ?_
  have hN : s1.heap.objs.size ≠ (s1.heap.push (revObj a ((its.toArray.size : Int) - 1))).objs.size :=
    Nat.ne_of_lt (Heap.lt_size (Heap.get?_push_size s1.heap (o := revObj a ((its.toArray.size : Int) - 1)) rfl))
  have hnew : H1 (s1.heap.push (revObj a ((its.toArray.size : Int) - 1))).objs.size = none := I2.hok.fresh (Nat.le_refl _)
  have I3 : Inv X pins σ (upd H1 (s1.heap.push (revObj a ((its.toArray.size : Int) - 1))).objs.size (.lst xs.reverse)) { s1 with heap := (s1.heap.push (revObj a ((its.toArray.size : Int) - 1))).push { cls := .type "list", dict := none, data := .seq acc c', slots := #[] }, toks := tk } :=
    I2.laid (t' := tk) (fun c o e => Heap.get?_push_of_some _ e) (Nat.le_refl _) (show ObjOk X.prog X.w _ _ _ (.lst xs.reverse) from ⟨by rw [List.length_reverse]; exact hz, acc.toList, c', RT.vals_rev rv hi, by rw [Array.toArray_toList]; exact Heap.get?_push_size _ rfl⟩)
  refine ⟨.ref _, _, Inv.turned (s := { s1 with heap := (s1.heap.push (revObj a ((its.toArray.size : Int) - 1))).push { cls := .type "list", dict := none, data := .seq acc c', slots := #[] }, toks := tk }) (it := s1.heap.objs.size) (h' := h') (t' := tk) I3 (fun b o hb q => ?_) (by rw [upd_ne hN]; exact f0) f1 f3 f4 f5, rfl, q _ hnew⟩
  rcases Heap.get?_push_cases q with ⟨rfl, rfl⟩ | q
  · exact e
  · exact hk b o hb q
end
end SD
namespace SD
open PySem PySem.Spec PyProof.Rows L2 SX
/-! # Rooms, marks, worths -/
abbrev Mark : Type := Ltr → Bool
def ltrsM (m : Mark) : List Ltr := [Ltr.p, .q, .r].filter m
def mt (m : Mark) : List Nat := (ltrsM m).map Ltr.code
theorem code_inj : ∀ {a b : Ltr}, a.code = b.code → a = b := by intro a b; cases a <;> cases b <;> simp [Ltr.code]
theorem mt_mem (m : Mark) (c : Ltr) : c.code ∈ mt m ↔ m c = true := by
  unfold mt ltrsM
  rw [List.mem_map]
  constructor
  · rintro ⟨d, h, e⟩
    have := code_inj e
    subst this
    exact (List.mem_filter.mp h).2
  · intro h
    exact ⟨c, List.mem_filter.mpr ⟨by cases c <;> simp, h⟩, rfl⟩
theorem mt_len (m : Mark) : (mt m).length ≤ 3 := by
  unfold mt ltrsM
  rw [List.length_map]
  exact List.length_filter_le _ _
theorem dec_mem (m : Mark) (c : Ltr) : decide (c.code ∈ (S (mt m)).cps.toList) = m c := by
  show decide (c.code ∈ mt m) = _
  cases h : m c with
  | true => exact decide_eq_true ((mt_mem m c).mpr h)
  | false => exact decide_eq_false fun z => by rw [(mt_mem m c).mp z] at h; cases h
/-- all that stand behind, place by place -/
def aboves : List Bool → List Bool
  | [] => []
  | _ :: l => l.all id :: aboves l
theorem aboves_len : ∀ l : List Bool, (aboves l).length = l.length
  | [] => rfl
  | _ :: l => by simp [aboves, aboves_len l]
theorem aboves_get : ∀ (l : List Bool) (t : Nat), t < l.length → (aboves l)[t]? = some ((l.drop (t + 1)).all id)
  | [], _, h => by simp at h
  | _ :: l, 0, _ => rfl
  | _ :: l, t + 1, h => by
    have h' : t < l.length := by simpa using h
    simpa [aboves] using aboves_get l t h'
def worthS (ms : List Mark) : Say → List Bool
  | .no => ms.map fun _ => false
  | .letter c => ms.map fun m => m c
  | .neg a => (worthS ms a).map fun b => !b
  | .shown a => aboves (worthS ms a)
  | .bin o a b => List.zipWith (fun x y => match o with | .conj => x && y | .disj => x || y | .impl => !x || y) (worthS ms a) (worthS ms b)
theorem worthS_len (ms : List Mark) : ∀ s : Say, (worthS ms s).length = ms.length
  | .no => by simp [worthS]
  | .letter c => by simp [worthS]
  | .neg a => by simp [worthS, worthS_len ms a]
  | .shown a => by simp [worthS, aboves_len, worthS_len ms a]
  | .bin o a b => by simp [worthS, worthS_len ms a, worthS_len ms b]
/-- the k-th room: below it the one before -/
def RoomAt (H : Hp) (k : Nat) (m : Mark) (v : V) : Prop := ∃ q, v = .ref q ∧ H q = some (.tup [.int ((k : Int) - 1), .str (S (mt m))])
def RoomsAt (H : Hp) (ms : List Mark) (vs : List V) : Prop := ms.length = vs.length ∧ ∀ k m v, ms[k]? = some m → vs[k]? = some v → RoomAt H k m v
theorem RoomAt.mono {H H' : Hp} {k : Nat} {m : Mark} {v : V} (g : Same H H') : RoomAt H k m v → RoomAt H' k m v := fun ⟨q, e, h⟩ => ⟨q, e, g _ _ h⟩
theorem RoomsAt.mono {H H' : Hp} {ms : List Mark} {vs : List V} (g : Same H H') (h : RoomsAt H ms vs) : RoomsAt H' ms vs := ⟨h.1, fun k m v a b => (h.2 k m v a b).mono g⟩
theorem RoomsAt.exc {D : Addr} {H H' : Hp} {xs : List V} {ms : List Mark} {vs : List V} (hD : H D = some (.lst xs)) (g : Exc D H H') (h : RoomsAt H ms vs) : RoomsAt H' ms vs :=
  ⟨h.1, fun k m v a b => by obtain ⟨q, e, z⟩ := h.2 k m v a b; exact ⟨q, e, g _ _ (ne_of z hD (by intro y; cases y)) z⟩⟩
section
variable {P : Program} {w : World} {K : PySem.W.Frag} {mg : Str → Option Value} {base : Heap}
def spMarks : Sp := fun vs H Q _ => ∃ m : Mark, vs = [.str (S (mt m))] ∧ ∀ H', Same H H' → Q (.bl true) H'
theorem cl_are_marks (D : Df K mg "are_marks" "are_marks" "are_marks" s_are_marks ["marks"]) (T : Tx mg) (iL : ∃ t, mg "LETTERS_trees" = some (.str "pqr" t)) : Cl P w K mg base CX0 1 "are_marks" spMarks := by
  refine D.ok c_are_marks (fun vs H Q E h => ?_) fun f cdv A outer s H vs Q E hr h => ?_
  · obtain ⟨m, rfl, _⟩ := h
    rfl
  obtain ⟨m, rfl, k⟩ := h
  obtain ⟨tL, mL⟩ := iL
  refine ⟨_, pss_one (ps_ret (pe_cmpR op_eq (pv 0) (pe_join pe_str (pe_lc (own := [("letter", 1)]) (g := gName 1) rfl c_are_marks.nd (pi_str (pe_glob (v := .str "pqr") rfl mL ⟨tL, rfl⟩)) (blkOk_by (own := [("letter", 1)]) (N := ["marks", "letter"]) (sc := defScope s_are_marks) (by decide +kernel))
        (fun _ _ _ _ _ => pg_name (i := 1) c_are_marks.nd rfl (Or.inl rfl)) (fun _ _ _ _ _ => pts_one (pt_cmpR op_in_sign (pv 1) (pv 0) rfl)) (fun _ _ _ _ _ => pv 1))) (nomark _))), ?_⟩
  refine ⟨_, rfl, ⟨_, rfl⟩, _, rfl, fun D nD => ?_⟩
  refine lc_onW walk_str (as := [Ltr.p, .q, .r]) (fun c => m c) (fun c y _ => y = .str (S [c.code])) (fun _ _ => trivial) strpqr.2.1.symm (by decide) nD (fun _ _ _ _ _ _ _ h => h) (fun j c v H2 H2' acc C C' hc hv s1 hD hC hC' => ?_) fun ys H2 s1 hD hy => ?_
  · obtain ⟨rfl, d, hd, rfl⟩ := hv
    have hd' : [112, 113, 114][j]? = some d := by rw [← strpqr.1, Array.getElem?_toList]; exact hd
    have e : d = c.code := by
      match j, hc, hd' with
      | 0, hc, hd' => injection hc with hc; injection hd' with hd'; subst hc; exact hd'.symm
      | 1, hc, hd' => injection hc with hc; injection hd' with hd'; subst hc; exact hd'.symm
      | 2, hc, hd' => injection hc with hc; injection hd' with hd'; subst hc; exact hd'.symm
      | n + 3, hc, _ => cases hc
    subst e
    refine ⟨rfl, _, rfl, _, rfl, c.code, S (mt m), rfl, rfl, _, rfl, ?_⟩
    rw [dec_mem]
    exact ite2 (fun c1 => ⟨_, rfl, hC c1 _ _ (Same.refl _) rfl⟩) fun c1 => hC' (Bool.eq_false_iff.mpr c1) _ (Same.refl _)
  · have e : ys = (((mt m).map fun c => [c]).map S).map V.str := by
      rw [paired_eq (f := fun c : Ltr => V.str (S [c.code])) hy]
      show _ = ((((ltrsM m).map Ltr.code).map fun c => [c]).map S).map V.str
      rw [List.map_map, List.map_map, List.map_map]; rfl
    subst e
    have := mt_len m
    refine ⟨S [], D, _, by rw [← str01.2], rfl, .inl (SqL.of hD), by rw [sum_ones]; omega, ?_⟩
    rw [join_chars]
    refine ⟨rfl, ?_⟩
    rw [decide_eq_true rfl]
    exact k H2 s1
def spLook : Sp := fun vs H Q _ => ∃ (a : Addr) (us : List V) (ms : List Mark), vs = [.ref a] ∧ SqL K H a us ∧ RoomsAt H ms us ∧ ms ≠ [] ∧ ms.length ≤ 1000 ∧ ∀ H', Same H H' → Q .non H'
theorem cl_look (D : Df K mg "look_over" "look_over" "look_over" s_look_over ["rooms"]) (T : Tx mg) (cM : Cl P w K mg base CX0 1 "are_marks" spMarks) : Cl P w K mg base CX0 2 "look_over" (spLook (K := K)) := by
  refine D.ok c_look_over (fun vs H Q E h => ?_) fun f cdv A outer s H vs Q E hr h => ?_
  · obtain ⟨a, us, ms, rfl, _⟩ := h
    rfl
  obtain ⟨a, us, ms, rfl, hS, hR, hne, hz, k⟩ := h
  refine ⟨_, pss_cons (ps_if (pt_cmpR op_eq (pe_callB call_len_seq rfl T.len PySem.boot_len (pa_cons (pv 0) pa_nil)) pe_int (nomark _)) (pss_one ps_never) pss_nil)
    (pss_one (ps_for PassesOwn.never rfl (pi_enum rfl T.enumerate (pa_cons (pv 0) pa_nil)) (pg_tup rfl (pgs_cons (pg_name (i := 1) c_look_over.nd rfl (Or.inl rfl)) (pgs_cons (pg_name (i := 2) c_look_over.nd rfl (Or.inl rfl)) pgs_nil)))
      (pss_cons (ps_set (i := 3) c_look_over.nd rfl (Or.inl rfl) (pe_cmpR op_eq (pe_ix ix_tup (pv 2) pe_int (fun _ _ => rfl)) (pe_un un_neg pe_int) rfl))
      (pss_cons (ps_if (pt_cmpR op_gt (pv 1) pe_int (nomark _)) (pss_one (ps_set (i := 3) c_look_over.nd rfl (Or.inl rfl) (pe_chain op_le op_lt pe_int (pe_ix ix_tup (pv 2) pe_int (fun _ _ => rfl)) (pv 1)))) pss_nil)
      (pss_one (ps_if (PW.pt (pw_or (pt_not (pt_val (pv 3))) (pw_or1 (pt_not (pt_val (pe_c0 cM hr (by omega) (pa_cons (pe_ix ix_tup (pv 2) pe_int (fun _ _ => rfl)) pa_nil))))))) (pss_one ps_never) pss_nil)))))), ?_⟩
  have hl := hR.1
  have hpos := List.length_pos_iff.mpr hne
  refine ⟨_, rfl, a, us, rfl, .inl hS, rfl, _, rfl, ?_⟩
  rw [show decide (V.int (us.length : Int) = V.int 0) = false from decide_eq_false fun e => by injection e with e; omega]
  refine ite2 (fun z => absurd z (by simp)) fun _ => ?_
  refine ⟨_, rfl, a, us, rfl, hS, ?_⟩
  refine for_it walk_enum (fun _ σ H2 => ∃ o1 o2 o3 : Option V, σ = [some (.ref a), o1, o2, o3] ∧ Same H H2) ⟨none, none, none, rfl, Same.refl _⟩ (fun _ σ H2 _ ⟨_, _, _, _, g⟩ => g.seq hS) (fun i v σ H2 H3 hi h hy => ?_) fun σ H2 h => ?_
  · obtain ⟨o1, o2, o3, rfl, g⟩ := h
    obtain ⟨tp, x, y, rfl, nT, rfl, hx, hy⟩ := hy
    injection hx with hx
    subst hx
    have gT := same_new nT (.tup [.int (i : Nat), y])
    have hil : i < ms.length := by omega
    obtain ⟨q, rfl, hq⟩ := (hR.2 i _ y (List.getElem?_eq_getElem hil) hy).mono (g.trans gT)
    refine ⟨tp, _, rfl, SqT.of upd_same, rfl, _, _, rfl, _, _, rfl, rfl, ?_⟩
    refine q_ix rfl hq at0 ⟨_, rfl, rfl, ?_⟩
    have fin : ∀ o : V, o = .bl true → tIfS (tOr (tNot (tB (tVar 3))) (tNot (tB (tCl spMarks E0 (tCons (tOp (rIxT K) (tVar 2) (tC (.int 1))) tNil))))) tNever tNext
        { nx := fun σ H2 => ∃ o1 o2 o3 : Option V, σ = [some (.ref a), o1, o2, o3] ∧ Same H H2, rt := Q, bk := fun _ H2 => Q .non H2, ct := fun σ H2 => ∃ o1 o2 o3 : Option V, σ = [some (.ref a), o1, o2, o3] ∧ Same H H2 } [some (.ref a), some (.int (i : Nat)), some (.ref q), some o] (upd H2 tp (.tup [.int (i : Nat), .ref q])) := by
      rintro o rfl
      refine ⟨_, rfl, true, rfl, ite2 (fun z => absurd z (by simp)) fun _ => ?_⟩
      refine q_ix rfl hq at1 ⟨_, rfl, fun H4 g4 => ⟨true, rfl, ite2 (fun z => absurd z (by simp)) fun _ => ⟨_, _, _, rfl, g.trans (gT.trans g4)⟩⟩⟩
    refine ⟨_, rfl, _, _, rfl, rfl, _, rfl, ?_⟩
    by_cases hi0 : i = 0
    · subst hi0
      refine ite2 (fun z => absurd z (by decide)) fun _ => ?_
      refine fin _ ?_
      rfl
    · refine ite2 (fun _ => ?_) fun z => absurd (decide_eq_true (show ((i : Nat) : Int) > 0 by omega)) z
      refine q_ix rfl hq at0 ⟨_, _, rfl, rfl, _, rfl, ite2 (fun _ => ?_) fun z => absurd (decide_eq_true (show (0 : Int) ≤ (i : Int) - 1 by omega)) z⟩
      refine ⟨_, rfl, _, _, rfl, rfl, ?_⟩
      refine fin _ ?_
      show V.bl (decide ((i : Int) - 1 < (i : Int))) = _
      rw [decide_eq_true (show (i : Int) - 1 < (i : Int) by omega)]
  · obtain ⟨o1, o2, o3, rfl, g⟩ := h
    exact k H2 g
end
end SD
namespace SD
open PySem PySem.Spec PyProof.Rows L2 SX
/-- what is held after i turns from the end -/
def heldI (bs : List Bool) (i : Nat) : List Bool := (List.range bs.length).map fun t => if bs.length ≤ t + 1 + i then (bs.drop (t + 1)).all id else true
theorem heldI_len (bs : List Bool) (i : Nat) : (heldI bs i).length = bs.length := by simp [heldI]
theorem heldI_get {bs : List Bool} {i t : Nat} (h : t < bs.length) : (heldI bs i)[t]? = some (if bs.length ≤ t + 1 + i then (bs.drop (t + 1)).all id else true) := by
  unfold heldI
  rw [List.getElem?_map, List.getElem?_range h]; rfl
theorem heldI_zero (bs : List Bool) : heldI bs 0 = List.replicate bs.length true := by
  apply List.ext_getElem?
  intro t
  by_cases h : t < bs.length
  · rw [heldI_get h, List.getElem?_replicate, if_pos h]
    by_cases h2 : bs.length ≤ t + 1 + 0
    · rw [if_pos h2, List.drop_of_length_le (by omega)]; rfl
    · rw [if_neg h2]
  · rw [List.getElem?_eq_none (by rw [heldI_len]; omega), List.getElem?_eq_none (by simp; omega)]
theorem heldI_full (bs : List Bool) {i : Nat} (hi : bs.length ≤ i + 1) : heldI bs i = aboves bs := by
  apply List.ext_getElem?
  intro t
  by_cases h : t < bs.length
  · rw [heldI_get h, aboves_get _ _ h, if_pos (by omega)]
  · rw [List.getElem?_eq_none (by rw [heldI_len]; omega), List.getElem?_eq_none (by rw [aboves_len]; omega)]
theorem drop_all {bs : List Bool} {k : Nat} {b : Bool} (h : bs[k]? = some b) : (bs.drop k).all id = (b && (bs.drop (k + 1)).all id) := by
  obtain ⟨hk, e⟩ := List.getElem?_eq_some_iff.mp h
  rw [List.drop_eq_getElem_cons hk, List.all_cons, e]; rfl
/-- one turn: at place k, from the end -/
theorem heldI_step {bs : List Bool} {i k : Nat} {b : Bool} (hk : k + 1 + i = bs.length) (hk0 : 1 ≤ k) (hb : bs[k]? = some b) :
    heldI bs (i + 1) = if (b && (bs.drop (k + 1)).all id) = true then heldI bs i else (heldI bs i).set (k - 1) false := by
  have e := drop_all hb
  apply List.ext_getElem?
  intro t
  by_cases h : t < bs.length
  · rw [heldI_get h]
    by_cases hc : (b && (bs.drop (k + 1)).all id) = true
    · rw [if_pos hc, heldI_get h]
      by_cases h1 : bs.length ≤ t + 1 + i
      · rw [if_pos (by omega), if_pos h1]
      · rw [if_neg h1]
        by_cases h2 : bs.length ≤ t + 1 + (i + 1)
        · rw [if_pos h2, show t + 1 = k by omega, e, hc]
        · rw [if_neg h2]
    · rw [if_neg hc]
      by_cases h3 : t = k - 1
      · subst h3
        rw [List.getElem?_set_self (by rw [heldI_len]; omega), if_pos (by omega), show k - 1 + 1 = k by omega, e]
        simpa using hc
      · rw [List.getElem?_set_ne (Ne.symm h3), heldI_get h]
        by_cases h1 : bs.length ≤ t + 1 + i
        · rw [if_pos (by omega), if_pos h1]
        · rw [if_neg h1, if_neg (by omega)]
  · rw [List.getElem?_eq_none (by rw [heldI_len]; omega)]
    by_cases hc : (b && (bs.drop (k + 1)).all id) = true
    · rw [if_pos hc, List.getElem?_eq_none (by rw [heldI_len]; omega)]
    · rw [if_neg hc, List.getElem?_eq_none (by rw [List.length_set, heldI_len]; omega)]
theorem atI_map {α : Type} {f : α → V} {l : List α} {i : Int} {j : Nat} {x : α} (hi : i = (j : Int)) (h : l[j]? = some x) : atI (l.map f) i = some (f x) := by
  subst hi
  exact atI_nat (j := j) (by rw [List.getElem?_map, h]; rfl)
theorem ixN_nat {n : Nat} {i : Int} {j : Nat} (hi : i = (j : Int)) (h : j < n) : ixN n i = some j := by
  subst hi
  unfold ixN
  rw [if_pos (by omega)]
  simp [h]
section
variable {P : Program} {w : World} {K : PySem.W.Frag} {mg : Str → Option Value} {base : Heap}
def spAll : Sp := fun vs H Q _ => ∃ (a b : Addr) (us : List V) (ms : List Mark) (bs : List Bool), vs = [.ref a, .ref b] ∧ SqL K H a us ∧ RoomsAt H ms us ∧ SqL K H b (bs.map V.bl) ∧ bs.length = ms.length ∧ ms.length ≤ 1000 ∧
  ∀ (p : Addr) (H' : Hp), Same H H' → H p = none → H' p = some (.lst ((aboves bs).map V.bl)) → Q (.ref p) H'
theorem cl_all (D : Df K mg "all_above" "all_above" "all_above" s_all_above ["rooms", "inner"]) (T : Tx mg) : Cl P w K mg base CX0 1 "all_above" (spAll (K := K)) := by
  refine D.ok c_all_above (fun vs H Q E h => ?_) fun f cdv A outer s H vs Q E hr h => ?_
  · obtain ⟨a, b, us, ms, bs, rfl, _⟩ := h
    rfl
  obtain ⟨a, b, us, ms, bs, rfl, hS, hR, hB, hbl, hz, k⟩ := h
  have hl := hR.1
  refine ⟨_, pss_cons (ps_setLc (i := 2) (own := [("room", 5)]) rfl c_all_above.nd rfl rfl rfl (pi_list (pv 0)) (blkOk_by (own := [("room", 5)]) (N := ["rooms", "inner", "held", "k", "below", "room"]) (sc := defScope s_all_above) (by decide +kernel))
        (fun _ _ _ _ _ => pg_name (i := 5) c_all_above.nd rfl (Or.inl rfl)) (fun _ _ _ _ _ => pts_nil) (fun _ _ _ _ _ => pe_bl))
    (pss_cons (ps_for PassesOwn.never rfl (pi_revR rfl T.reversed (prg_1 rfl T.range (pe_callB call_len_seq rfl T.len PySem.boot_len (pa_cons (pv 0) pa_nil)))) (pg_name (i := 3) c_all_above.nd rfl (Or.inl rfl))
      (pss_cons (ps_set (i := 4) c_all_above.nd rfl (Or.inl rfl) (pe_ix ix_tup (pe_ix ix_list (pv 0) (pv 3) (fun _ _ => rfl)) pe_int (fun _ _ => rfl)))
      (pss_one (ps_if (PW.pt (pw_and (pt_cmpR op_ge (pv 4) pe_int (nomark _)) (pw_and1 (pt_not (PW.pt (pw_and (pt_val (pe_ix ix_list (pv 1) (pv 3) (fun _ _ => rfl))) (pw_and1 (pt_val (pe_ix ix_list (pv 2) (pv 3) (fun _ _ => rfl))))))))))
        (pss_one (ps_asg pe_bl (pg_sub (pv 2) (pv 4) set_list))) pss_nil))))
    (pss_one (ps_ret (pv 2)))), ?_⟩
  refine ⟨_, rfl, a, rfl, ⟨us, hS⟩, fun D nD => ?_⟩
  refine lc_on (as := ms) (fun _ => true) (fun _ y _ => y = .bl true) hS hl (by omega) nD (fun _ _ _ _ _ _ _ h => h) (fun j m v H2 acc C C' hb hv s1 hD hC _ => ⟨rfl, q_yes _ _ (hC rfl _ _ (Same.refl _) rfl)⟩) fun ys H2 s1 hD hy => ?_
  rw [filter_true] at hy
  have e : ys = (heldI bs 0).map V.bl := by
    have rep : ∀ l : List Mark, l.map (fun _ => V.bl true) = (List.replicate l.length true).map V.bl := fun l => by
      induction l with
      | nil => rfl
      | cons _ _ ih => rw [List.map_cons, ih]; rfl
    rw [paired_eq (f := fun _ : Mark => V.bl true) hy, heldI_zero, hbl, rep]
  subst e
  have hn : ((us.length : Int) - 0).toNat = us.length := by omega
  refine ⟨_, rfl, a, us, rfl, .inl (s1.seq hS), _, rfl, by omega, by omega, by omega, by omega, ?_⟩
  refine for_it walk_rangeC (fun i σ H3 => ∃ o3 o4 : Option V, σ = [some (.ref a), some (.ref b), some (.ref D), o3, o4, none] ∧ Exc D H2 H3 ∧ H3 D = some (.lst ((heldI bs i).map V.bl))) ⟨none, none, rfl, fun _ _ _ q => q, hD⟩ (fun _ _ _ _ _ => trivial) (fun i v σ H3 H4 hi h hy => ?_) fun σ H3 h => ?_
  · obtain ⟨o3, o4, rfl, ex, hD3⟩ := h
    rw [hn] at hi
    rw [hy.1, hy.2]
    have hk : us.length - 1 - i < us.length := by omega
    have hval : (fun i : Nat => V.int ((0 : Int) + ((((us.length : Int) - 0).toNat : Nat) : Int) - 1 + (i : Nat) * (-1))) i = V.int ((us.length - 1 - i : Nat) : Int) := by
      show V.int _ = V.int _
      congr 1
      omega
    rw [hval]
    have hkm : us.length - 1 - i < ms.length := by omega
    have hkb : us.length - 1 - i < bs.length := by omega
    have hbk : bs[us.length - 1 - i]? = some bs[us.length - 1 - i] := List.getElem?_eq_getElem hkb
    have huk : us[us.length - 1 - i]? = some us[us.length - 1 - i] := List.getElem?_eq_getElem hk
    have gE : ∀ {c : Addr} {o : HO}, H c = some o → H3 c = some o := fun {c o} q => ex _ _ (ne_of_none q nD) (s1 _ _ q)
    have gS : Same H H3 := fun c o q => gE q
    obtain ⟨q, hq0, hq⟩ := (hR.2 _ _ _ (List.getElem?_eq_getElem hkm) huk).mono gS
    have hheld : (heldI bs i)[us.length - 1 - i]? = some ((bs.drop (us.length - 1 - i + 1)).all id) := by rw [heldI_get hkb, if_pos (by omega)]
    refine ⟨_, rfl, _, rfl, a, us, _, _, rfl, rfl, gS.seq hS, atI_nat (j := us.length - 1 - i) huk, q, _, _, _, hq0, rfl, SqT.of hq, at0, ?_⟩
    have last : us.length - 1 - i = 0 → heldI bs (i + 1) = heldI bs i := fun e => by rw [heldI_full bs (by omega), heldI_full bs (by omega)]
    refine ⟨_, rfl, _, _, rfl, rfl, _, rfl, ?_⟩
    by_cases hk0 : us.length - 1 - i = 0
    · refine ite2 (fun z => absurd (of_decide_eq_true z) (by show ¬ (0 : Int) ≤ ((us.length - 1 - i : Nat) : Int) - 1; omega)) fun _ => ?_
      first
      | exact ⟨_, _, rfl, ex, by rw [last hk0]; exact hD3⟩
      | exact ite2 (fun z => absurd z Bool.false_ne_true) fun _ => ⟨_, _, rfl, ex, by rw [last hk0]; exact hD3⟩
    refine ite2 (fun _ => ?_) fun z => absurd (decide_eq_true (show (0 : Int) ≤ ((us.length - 1 - i : Nat) : Int) - 1 by omega)) z
    have step := heldI_step (bs := bs) (i := i) (k := us.length - 1 - i) (by omega) (by omega) hbk
    have yes : (bs[us.length - 1 - i] && (bs.drop (us.length - 1 - i + 1)).all id) = true → H3 D = some (.lst ((heldI bs (i + 1)).map V.bl)) := fun c => by rw [step, if_pos c]; exact hD3
    have no : (bs[us.length - 1 - i] && (bs.drop (us.length - 1 - i + 1)).all id) = false → tAsg (tC (.bl false)) (gSub (tVar 2) (tVar 4) rSetL)
        { nx := fun σ H3 => ∃ o3 o4 : Option V, σ = [some (.ref a), some (.ref b), some (.ref D), o3, o4, none] ∧ Exc D H2 H3 ∧ H3 D = some (.lst ((heldI bs (i + 1)).map V.bl)), rt := Q, bk := fun σ H => tRet (tVar 2) { nx := fun _ H' => Q .non H', rt := Q } σ H, ct := fun σ H3 => ∃ o3 o4 : Option V, σ = [some (.ref a), some (.ref b), some (.ref D), o3, o4, none] ∧ Exc D H2 H3 ∧ H3 D = some (.lst ((heldI bs (i + 1)).map V.bl)) }
        [some (.ref a), some (.ref b), some (.ref D), some (.int ((us.length - 1 - i : Nat) : Int)), some (.int (((us.length - 1 - i : Nat) : Int) - 1)), none] H3 := fun c => by
      refine ⟨_, rfl, _, rfl, D, _, _, us.length - 1 - i - 1, rfl, rfl, hD3, ixN_nat (by omega) (by rw [List.length_map, heldI_len]; omega), ?_⟩
      refine ⟨_, _, rfl, fun c o hc q => by rw [upd_ne hc]; exact ex _ _ hc q, ?_⟩
      rw [upd_same, step, if_neg (by rw [c]; exact Bool.false_ne_true), List.map_set]
    refine ⟨_, rfl, _, rfl, b, _, _, _, rfl, rfl, gS.seq hB, atI_map (by rfl) hbk, _, rfl, ?_⟩
    refine ite2 (fun c => ?_) fun c => ?_
    · refine ⟨_, rfl, _, rfl, D, _, _, _, rfl, rfl, SqL.of hD3, atI_map (by rfl) hheld, _, rfl, ?_⟩
      refine ite2 (fun z => ?_) fun z => ?_
      · refine no ?_
        have : (bs.drop (us.length - 1 - i + 1)).all id = false := by simpa using z
        rw [this, Bool.and_false]
      · refine ⟨_, _, rfl, ex, yes ?_⟩
        have : (bs.drop (us.length - 1 - i + 1)).all id = true := by simpa using z
        rw [this, c]; rfl
    · have c' := Bool.eq_false_iff.mpr c
      first
      | exact no (by rw [c']; rfl)
      | exact iteT (no (by rw [c']; rfl))
      | exact ite2 (fun _ => no (by rw [c']; rfl)) fun z => absurd rfl z
  · obtain ⟨o3, o4, rfl, ex, hD3⟩ := h
    rw [hn, heldI_full bs (by omega)] at hD3
    exact ⟨_, rfl, k D H3 (fun c o q => ex _ _ (ne_of_none q nD) (s1 _ _ q)) nD hD3⟩
end
end SD
namespace SD
open PySem PySem.Spec PyProof.Rows L2 SX
theorem pgT (K : PySem.W.Frag) {X : Cx} {pos : Pos} {es : List Expr} {k : Nat} {t : TGs} {n : Nat} (hc : X.calm = true) (h : PGs X es t) (hK : X.K = K := by rfl)
    (hn : (assignEach es X.env).length = n := by rfl) (hst : (assignEach es X.env).findIdx? (·.1) = none := by rfl) : PG X (.Tuple es k pos) (gTup K n t) := by
  subst hK
  exact pg_tup hc h hn hst
def bop (o : Op) (x y : Bool) : Bool := match o with | .conj => x && y | .disj => x || y | .impl => !x || y
theorem zip_get {xs ys : List Bool} {i : Nat} {p : Bool × Bool} (h : (xs.zip ys)[i]? = some p) {x y : V} (hx : (xs.map V.bl)[i]? = some x) (hy : (ys.map V.bl)[i]? = some y) : x = .bl p.1 ∧ y = .bl p.2 := by
  obtain ⟨a, b⟩ := p
  rw [List.getElem?_zip_eq_some] at h
  exact ⟨map_at h.1 hx, map_at h.2 hy⟩
theorem zipW (f : Bool → Bool → Bool) : ∀ xs ys : List Bool, (xs.zip ys).map (fun p => f p.1 p.2) = List.zipWith f xs ys
  | [], _ => by simp
  | _ :: _, [] => by simp
  | x :: xs, y :: ys => by rw [List.zip_cons_cons, List.map_cons, List.zipWith_cons_cons, zipW f xs ys]
section
variable {P : Program} {w : World} {K : PySem.W.Frag} {mg : Str → Option Value} {base : Heap}
def spJn : Sp := fun vs H Q _ => ∃ (a b : Addr) (xs ys : List Bool) (o : Op), vs = [.str o.word, .ref a, .ref b] ∧ SqL K H a (xs.map V.bl) ∧ SqL K H b (ys.map V.bl) ∧ xs.length = ys.length ∧ xs.length ≤ 1000 ∧
  ∀ (p : Addr) (H' : Hp), Same H H' → H p = none → H' p = some (.lst ((List.zipWith (bop o) xs ys).map V.bl)) → Q (.ref p) H'
theorem cl_joined (D : Df K mg "joined" "joined" "joined" s_joined ["word", "ones", "others"]) (T : Tx mg) : Cl P w K mg base CX0 1 "joined" (spJn (K := K)) := by
  refine D.ok c_joined (fun vs H Q E h => ?_) fun f cdv A outer s H vs Q E hr h => ?_
  · obtain ⟨a, b, xs, ys, o, rfl, _⟩ := h
    rfl
  obtain ⟨a, b, xs, ys, o, rfl, hX, hY, hl, hz, k⟩ := h
  refine ⟨_, pss_cons (ps_if (pt_cmpR op_eq (pv 0) pe_str (nomark _)) (pss_one (ps_ret (pe_lc (own := [("one", 3), ("other", 4)]) rfl c_joined.nd (pi_zip rfl T.zip (pa_cons (pv 1) (pa_cons (pv 2) pa_nil))) (blkOk_by (own := [("one", 3), ("other", 4)]) (N := ["word", "ones", "others", "one", "other"]) (sc := defScope s_joined) (by decide +kernel))
        (fun _ _ _ _ _ => pgT K (n := 2) rfl (pgs_cons (pg_name (i := 3) c_joined.nd rfl (Or.inl rfl)) (pgs_cons (pg_name (i := 4) c_joined.nd rfl (Or.inl rfl)) pgs_nil))) (fun _ _ _ _ _ => pts_nil) (fun _ _ _ _ _ => pe_and (pv 3) (pe_one (pv 4)))))) pss_nil)
    (pss_cons (ps_if (pt_cmpR op_eq (pv 0) pe_str (nomark _)) (pss_one (ps_ret (pe_lc (own := [("one", 3), ("other", 4)]) rfl c_joined.nd (pi_zip rfl T.zip (pa_cons (pv 1) (pa_cons (pv 2) pa_nil))) (blkOk_by (own := [("one", 3), ("other", 4)]) (N := ["word", "ones", "others", "one", "other"]) (sc := defScope s_joined) (by decide +kernel))
        (fun _ _ _ _ _ => pgT K (n := 2) rfl (pgs_cons (pg_name (i := 3) c_joined.nd rfl (Or.inl rfl)) (pgs_cons (pg_name (i := 4) c_joined.nd rfl (Or.inl rfl)) pgs_nil))) (fun _ _ _ _ _ => pts_nil) (fun _ _ _ _ _ => pe_or (pv 3) (pe_one (pv 4)))))) pss_nil)
    (pss_one (ps_ret (pe_lc (own := [("one", 3), ("other", 4)]) rfl c_joined.nd (pi_zip rfl T.zip (pa_cons (pv 1) (pa_cons (pv 2) pa_nil))) (blkOk_by (own := [("one", 3), ("other", 4)]) (N := ["word", "ones", "others", "one", "other"]) (sc := defScope s_joined) (by decide +kernel))
        (fun _ _ _ _ _ => pgT K (n := 2) rfl (pgs_cons (pg_name (i := 3) c_joined.nd rfl (Or.inl rfl)) (pgs_cons (pg_name (i := 4) c_joined.nd rfl (Or.inl rfl)) pgs_nil))) (fun _ _ _ _ _ => pts_nil) (fun _ _ _ _ _ => pe_or (pe_not (pv 3)) (pe_one (pv 4))))))), ?_⟩
  have hzl : (xs.zip ys).length = min (xs.map V.bl).length (ys.map V.bl).length := by simp
  have hzz : (xs.zip ys).length ≤ 50000 := by rw [List.length_zip]; omega
  have fin : ∀ (D : Addr) (zs : List V) (H2 : Hp), H D = none → Same H H2 → H2 D = some (.lst zs) → Paired (fun (p : Bool × Bool) y => y = .bl (bop o p.1 p.2)) ((xs.zip ys).filter fun _ => true) zs → Q (.ref D) H2 := fun D zs H2 nD s1 hD hy => by
    rw [filter_true] at hy
    have e := paired_eq (f := fun p : Bool × Bool => V.bl (bop o p.1 p.2)) hy
    have e2 : zs = (List.zipWith (bop o) xs ys).map V.bl := by rw [e, ← zipW, List.map_map]; rfl
    subst e2
    exact k D H2 s1 nD hD
  have go : ∀ (te : TE) (D : Addr) (σ : L2.St), H D = none → σ = [some (.str o.word), some (.ref a), some (.ref b), none, none] →
      (∀ (x y : Bool) (H2 : Hp) (C : V → Hp → Prop), C (.bl (bop o x y)) H2 → te [some (.str o.word), some (.ref a), some (.ref b), some (.bl x), some (.bl y)] H2 C) →
      ∃ W : Nat → Nat → Hp → Prop, (∃ m, W 0 m (upd H D (.lst []))) ∧ ∀ i m H', W i m H' →
      ((Itz K a b).stop i H' ∧ Q (.ref D) H') ∨ ((Itz K a b).go i H' ∧ ∃ Nx : Hp → Prop, (∀ H', Nx H' → ∃ m', m' < m ∧ W (i + 1) m' H') ∧ ∀ x H'', (Itz K a b).yld i H' x H'' → gTup K 2 (gCons (gName 3) (gCons (gName 4) gNil)) x (wipe σ [3, 4]) H'' fun σ2 H2 => wipe σ2 [3, 4] = wipe σ [3, 4] ∧ tYes σ2 H2 fun b H3 =>
        if b = true then te σ2 H3 fun y H4 => ∃ acc, H4 D = some (.lst acc) ∧ acc.length < sizeLine ∧ Nx (upd H4 D (.lst (acc ++ [y]))) else Nx H3) := by
    intro te D σ nD hσ hte
    subst hσ
    refine lc_onW (walk_zip hzl) (as := xs.zip ys) (fun _ => true) (fun p y _ => y = .bl (bop o p.1 p.2)) (fun _ s1 => ⟨s1.seq hX, s1.seq hY⟩) rfl hzz nD (fun _ _ _ _ _ _ _ h => h) (fun j p v H2 H3 acc C C' hp hv s1 hD hC _ => ?_) fun zs H2 s1 hD hy => fin D zs H2 nD s1 hD hy
    obtain ⟨tp, x, y, rfl, nT, rfl, hx, hy⟩ := hv
    obtain ⟨rfl, rfl⟩ := zip_get hp hx hy
    refine ⟨tp, _, rfl, SqT.of upd_same, rfl, _, _, rfl, _, _, rfl, rfl, rfl, q_yes _ _ ?_⟩
    exact hte _ _ _ _ (hC rfl _ _ (same_new nT _) rfl)
  refine q_slot rfl ?_
  cases o with
  | conj =>
    refine ite2 (fun _ => ?_) fun z => absurd (by decide +kernel) z
    refine ⟨_, rfl, _, rfl, a, b, _, _, rfl, hX, hY, fun D nD => go _ D _ nD rfl fun x y H2 C h => ?_⟩
    refine ⟨_, rfl, x, rfl, ?_⟩
    cases x
    · exact h
    · exact ⟨_, rfl, h⟩
  | disj =>
    refine ite2 (fun z => absurd z (by decide +kernel)) fun _ => ?_
    refine q_slot rfl (ite2 (fun _ => ?_) fun z => absurd (by decide +kernel) z)
    refine ⟨_, rfl, _, rfl, a, b, _, _, rfl, hX, hY, fun D nD => go _ D _ nD rfl fun x y H2 C h => ?_⟩
    refine ⟨_, rfl, x, rfl, ?_⟩
    cases x
    · exact ⟨_, rfl, h⟩
    · exact h
  | impl =>
    refine ite2 (fun z => absurd z (by decide +kernel)) fun _ => ?_
    refine q_slot rfl (ite2 (fun z => absurd z (by decide +kernel)) fun _ => ?_)
    refine ⟨_, rfl, _, rfl, a, b, _, _, rfl, hX, hY, fun D nD => go _ D _ nD rfl fun x y H2 C h => ?_⟩
    refine ⟨_, rfl, x, rfl, _, rfl, ?_⟩
    cases x
    · exact h
    · exact ⟨_, rfl, h⟩
end
end SD
namespace SD
open PySem PySem.Spec PyProof.Rows L2 SX
section
variable {P : Program} {w : World} {K : PySem.W.Frag} {mg : Str → Option Value} {base : Heap}
/-! # truths in a tree -/
def NewBl (H : Hp) (Q : VK) (bs : List Bool) : Prop := ∀ (p : Addr) (H' : Hp), Same H H' → H p = none → H' p = some (.lst (bs.map V.bl)) → Q (.ref p) H'
theorem NewBl.mono {H H1 : Hp} {Q : VK} {bs : List Bool} (g : Same H H1) (h : NewBl H Q bs) : NewBl H1 Q bs := fun p H' g' n e => h p H' (g.trans g') (g.free n) e
def spTruths (n : Nat) : Sp := fun vs H Q _ => ∃ (a d : Addr) (v : V) (us : List V) (ms : List Mark) (s : Say), vs = [.ref a, v, .ref d] ∧ SqL K H a us ∧ RoomsAt H ms us ∧ ms.length ≤ 1000 ∧ SayAt H s v ∧ s.ht < n ∧ H d = some (.dK []) ∧ NewBl H Q (worthS ms s)
theorem worth_bin (ms : List Mark) (o : Op) (a b : Say) : worthS ms (.bin o a b) = List.zipWith (bop o) (worthS ms a) (worthS ms b) := by cases o <;> rfl
theorem map_not (l : List Bool) : l.map (fun b => V.bl (!b)) = (l.map fun b => !b).map V.bl := by rw [List.map_map]; rfl
theorem map_eqf {α β : Type} {f g : α → β} (l : List α) (h : ∀ x, f x = g x) : l.map f = l.map g := by rw [funext h]
theorem cl_truths (D : Df K mg "truths_in" "truths_in" "truths_in" s_truths_in ["rooms", "saying", "given"]) (T : Tx mg) (cA : Cl P w K mg base CX0 1 "all_above" (spAll (K := K))) (cJ : Cl P w K mg base CX0 1 "joined" (spJn (K := K))) : ∀ n : Nat, Cl P w K mg base CX0 (n + 1) "truths_in" (spTruths (K := K) n)
  | 0 => D.no fun vs H Q E h => by
    obtain ⟨a, d, v, us, ms, s, _, _, _, _, _, h, _⟩ := h
    omega
  | n + 1 => by
    have ih := cl_truths D T cA cJ n
    refine D.ok c_truths_in (fun vs H Q E h => ?_) fun f cdv A outer s H vs Q E hr h => ?_
    · obtain ⟨a, d, v, us, ms, s, rfl, _⟩ := h
      rfl
    obtain ⟨a, d, v, us, ms, x, rfl, hS, hR, hz, hx, hh, hd, k⟩ := h
    have hu := hu_of hr
    have hl := hR.1
    refine ⟨_, pss_cons (ps_set (i := 3) c_truths_in.nd rfl (Or.inl rfl) (pe_ix ix_tup (pv 1) pe_int (fun _ _ => rfl)))
      (pss_cons (ps_if (pt_cmpR op_eq (pv 3) pe_str (nomark _)) (pss_one (ps_ret (pe_lc (own := [("room", 5)]) (g := gName 5) rfl c_truths_in.nd (pi_list (pv 0)) (blkOk_by (own := [("room", 5)]) (N := ["rooms", "saying", "given", "word", "inner", "room", "truth", "below", "marks"]) (sc := defScope s_truths_in) (by decide +kernel))
          (fun _ _ _ _ _ => pg_name (i := 5) c_truths_in.nd rfl (Or.inl rfl)) (fun _ _ _ _ _ => pts_nil) (fun _ _ _ _ _ => pe_bl)))) pss_nil)
      (pss_cons (ps_if (pt_cmpR op_eq (pv 3) pe_str (nomark _))
        (pss_cons (ps_if (pt_cmp (pc_din hu (pe_ix ix_tup (pv 1) pe_int (fun _ _ => rfl)) (pv 2))) (pss_one ps_never) pss_nil)
        (pss_one (ps_ret (pe_lc (own := [("below", 7), ("marks", 8)]) rfl c_truths_in.nd (pi_list (pv 0)) (blkOk_by (own := [("below", 7), ("marks", 8)]) (N := ["rooms", "saying", "given", "word", "inner", "room", "truth", "below", "marks"]) (sc := defScope s_truths_in) (by decide +kernel))
          (fun _ _ _ _ _ => pgT K (n := 2) rfl (pgs_cons (pg_name (i := 7) c_truths_in.nd rfl (Or.inl rfl)) (pgs_cons (pg_name (i := 8) c_truths_in.nd rfl (Or.inl rfl)) pgs_nil))) (fun _ _ _ _ _ => pts_nil) (fun _ _ _ _ _ => pe_cmpR op_in_sign (pe_ix (ixT K) (pv 1) pe_int (fun _ _ => rfl)) (pv 8) rfl))))) pss_nil)
      (pss_cons (ps_set (i := 4) c_truths_in.nd rfl (Or.inl rfl) (pe_c0 ih hr (by omega) (pa_cons (pv 0) (pa_cons (pe_ix ix_tup (pv 1) pe_int (fun _ _ => rfl)) (pa_cons (pv 2) pa_nil)))))
      (pss_cons (ps_if (pt_cmpR op_eq (pv 3) pe_str (nomark _)) (pss_one (ps_ret (pe_lc (own := [("truth", 6)]) (g := gName 6) rfl c_truths_in.nd (pi_list (pv 4)) (blkOk_by (own := [("truth", 6)]) (N := ["rooms", "saying", "given", "word", "inner", "room", "truth", "below", "marks"]) (sc := defScope s_truths_in) (by decide +kernel))
          (fun _ _ _ _ _ => pg_name (i := 6) c_truths_in.nd rfl (Or.inl rfl)) (fun _ _ _ _ _ => pts_nil) (fun _ _ _ _ _ => pe_not (pv 6))))) pss_nil)
      (pss_cons (ps_if (pt_cmpR op_eq (pv 3) pe_str (nomark _)) (pss_one (ps_ret (pe_c0 cA hr (by omega) (pa_cons (pv 0) (pa_cons (pv 4) pa_nil))))) pss_nil)
      (pss_one (ps_ret (pe_c0 cJ hr (by omega) (pa_cons (pv 3) (pa_cons (pv 4) (pa_cons (pe_c0 ih hr (by omega) (pa_cons (pv 0) (pa_cons (pe_ix ix_tup (pv 1) pe_int (fun _ _ => rfl)) (pa_cons (pv 2) pa_nil)))) pa_nil))))))))))), ?_⟩
    refine q_word rfl hx ?_
    refine q_slot rfl (ite2 (fun c1 => ?_) fun c1 => ?_)
    · have e := word_no.mp (of_decide_eq_true c1)
      subst e
      refine ⟨_, rfl, a, rfl, ⟨us, hS⟩, fun D nD => ?_⟩
      refine lc_on (as := ms) (fun _ => true) (fun _ y _ => y = .bl false) hS hl (by omega) nD (fun _ _ _ _ _ _ _ h => h) (fun j m v H2 acc C C' hb hv s1 hD hC _ => ⟨rfl, q_yes _ _ (hC rfl _ _ (Same.refl _) rfl)⟩) fun ys H2 s1 hD hy => ?_
      rw [filter_true] at hy
      refine k D H2 s1 nD ?_
      rw [hD, paired_eq (f := fun _ : Mark => V.bl false) hy]
      simp only [worthS, List.map_map]; rfl
    refine q_slot rfl (ite2 (fun c2 => ?_) fun c2 => ?_)
    · have e := word_letter.mp (of_decide_eq_true c2)
      cases x <;> simp [Say.isLetter] at e
      rename_i l
      obtain ⟨r, rfl, hr2⟩ := id hx
      refine q_ix rfl hr2 at1 ⟨_, rfl, d, none, rfl, DGet.k (k := Sum.inr l.str) hd, false, rfl, ?_⟩
      refine ite2 (fun z => absurd z (by simp)) fun _ => ?_
      refine ⟨_, rfl, a, rfl, ⟨us, hS⟩, fun D nD => ?_⟩
      refine lc_on (as := ms) (fun _ => true) (fun m y _ => y = .bl (m l)) hS hl (by omega) nD (fun _ _ _ _ _ _ _ h => h) (fun j m v H2 acc C C' hm hv s1 hD hC _ => ?_) fun ys H2 s1 hD hy => ?_
      · obtain ⟨q, rfl, hq⟩ := (hR.2 j m v hm hv).mono s1
        refine ⟨q, _, rfl, SqT.of hq, rfl, _, _, rfl, _, _, rfl, rfl, rfl, q_yes _ _ ?_⟩
        refine q_ix rfl (s1 _ _ hr2) at1 ⟨_, rfl, l.code, S (mt m), rfl, rfl, ?_⟩
        rw [dec_mem]
        exact hC rfl _ _ (Same.refl _) rfl
      · rw [filter_true] at hy
        refine k D H2 s1 nD ?_
        rw [hD, paired_eq (f := fun m : Mark => V.bl (m l)) hy]
        simp only [worthS, List.map_map]; rfl
    have hk1 : ∃ q y r, v = .ref q ∧ H q = some (.tup (.str x.word :: y :: r)) ∧ ∃ s1 : Say, SayAt H s1 y ∧ s1.ht < n ∧ ((x = .neg s1 ∧ x.word = "not") ∨ x = .shown s1 ∨ ∃ o s2 z, x = .bin o s1 s2 ∧ r = [z] ∧ SayAt H s2 z ∧ s2.ht < n) := by
      cases x with
      | no => exact absurd (decide_eq_true rfl) c1
      | letter => exact absurd (decide_eq_true rfl) c2
      | neg s1 => obtain ⟨q, y, rfl, hq, hy⟩ := hx; exact ⟨q, y, _, rfl, hq, s1, hy, by simp only [Say.ht] at hh; omega, .inl ⟨rfl, rfl⟩⟩
      | shown s1 => obtain ⟨q, y, rfl, hq, hy⟩ := hx; exact ⟨q, y, _, rfl, hq, s1, hy, by simp only [Say.ht] at hh; omega, .inr (.inl rfl)⟩
      | bin o s1 s2 => obtain ⟨q, y, z, rfl, hq, hy, hz⟩ := hx; simp only [Say.ht] at hh; exact ⟨q, y, _, rfl, hq, s1, hy, by omega, .inr (.inr ⟨o, s2, z, rfl, rfl, hz, by omega⟩)⟩
    obtain ⟨q, y, r, rfl, hq, s1, hy, hh1, cases3⟩ := hk1
    refine ⟨_, rfl, ?_⟩
    refine q_ix rfl hq at1 ⟨_, rfl, a, d, y, us, ms, s1, rfl, hS, hR, hz, hy, hh1, hd, fun p H1 g1 np hp => ?_⟩
    have hwl := worthS_len ms s1
    have hpS : SqL K H1 p ((worthS ms s1).map V.bl) := SqL.of hp
    refine q_slot rfl (ite2 (fun c3 => ?_) fun c3 => ?_)
    · rcases cases3 with ⟨rfl, _⟩ | rfl | ⟨o, s2, z, rfl, _⟩
      rotate_left
      · exact absurd (of_decide_eq_true c3).symm w_ne.2.2
      · exact absurd (of_decide_eq_true c3) (oword_ne o).2.2.1
      refine ⟨_, rfl, p, rfl, ⟨_, hpS⟩, fun D nD => ?_⟩
      refine lc_on (as := worthS ms s1) (fun _ => true) (fun b y _ => y = .bl (!b)) hpS (by rw [List.length_map]) (by omega) nD (fun _ _ _ _ _ _ _ h => h) (fun j b v H2 acc C C' hb hv s1 hD hC _ => ?_) fun ys H2 s1' hD hy => ?_
      · have e := map_at hb hv
        subst e
        exact ⟨rfl, q_yes _ _ ⟨_, rfl, b, rfl, hC rfl _ _ (Same.refl _) rfl⟩⟩
      · rw [filter_true] at hy
        refine k D H2 (g1.trans s1') (g1.free nD) ?_
        rw [hD, paired_eq (f := fun b : Bool => V.bl (!b)) hy, map_not]; rfl
    refine q_slot rfl (ite2 (fun c4 => ?_) fun c4 => ?_)
    · rcases cases3 with ⟨rfl, _⟩ | rfl | ⟨o, s2, z, rfl, _⟩
      · exact absurd (decide_eq_true rfl) c3
      · refine ⟨_, rfl, _, rfl, a, p, us, ms, _, rfl, g1.seq hS, hR.mono g1, hpS, hwl, hz, fun p2 H2 g2 np2 hp2 => ?_⟩
        exact k p2 H2 (g1.trans g2) (g1.free np2) hp2
      · exact absurd (of_decide_eq_true c4) (oword_ne o).2.2.2
    · rcases cases3 with ⟨rfl, _⟩ | rfl | ⟨o, s2, z, rfl, rfl, hz2, hh2⟩
      · exact absurd (decide_eq_true rfl) c3
      · exact absurd (decide_eq_true rfl) c4
      refine ⟨_, rfl, _, rfl, _, rfl, ?_⟩
      refine q_ix rfl (g1 _ _ hq) at2 ⟨_, rfl, a, d, z, us, ms, s2, rfl, g1.seq hS, hR.mono g1, hz, hz2.mono g1, hh2, g1 _ _ hd, fun p2 H2 g2 np2 hp2 => ?_⟩
      have hwl2 := worthS_len ms s2
      refine ⟨p, p2, _, _, o, rfl, g2.seq hpS, SqL.of hp2, by omega, by omega, fun p3 H3 g3 np3 hp3 => ?_⟩
      refine k p3 H3 (g1.trans (g2.trans g3)) (g1.free (g2.free np3)) ?_
      rw [hp3, worth_bin]
/-! # Tree, Chain -/
def spTreeI : Sp := fun vs H Q _ => ∃ (x C dx a : Addr) (us : List V) (ms : List Mark), vs = [.ref x, .ref a] ∧ H x = some (.ins C dx []) ∧ Cls K C ∧ NoAttr K C "kept" ∧ SqL K H a us ∧ RoomsAt H ms us ∧ ms ≠ [] ∧ ms.length ≤ 1000 ∧
  ∀ (p : Addr) (zs : List V) (H1 : Hp), Same H H1 → H p = none → H1 p = some (.lst zs) → RoomsAt H1 ms zs → Q .non (upd H1 x (.ins C dx [("kept", .ref p)]))
theorem ins_lst {C dx : Addr} {fs : List (Str × V)} {xs : List V} : (HO.ins C dx fs) ≠ .lst xs := by intro z; cases z
theorem ca_treeI {fT : Addr} (D : Da K "__init__" "Tree.__init__" s_Tree_init ["self", "rooms"] fT) (cL : Cl P w K mg base CX0 2 "look_over" (spLook (K := K))) : Ca P w K mg base CX0 3 fT (spTreeI (K := K)) := by
  refine D.ok c_Tree_init (fun vs H Q E h => ?_) fun cdv A outer s H vs Q E hr h => ?_
  · obtain ⟨x, C, dx, a, us, ms, rfl, _⟩ := h
    rfl
  obtain ⟨x, C, dx, a, us, ms, rfl, hx, hc, hn, hS, hR, hne, hz, k⟩ := h
  have hl := hR.1
  refine ⟨_, pss_cons (ps_expr (pe_c0 cL hr (by omega) (pa_cons (pv 1) pa_nil)))
    (pss_one (ps_fld (pv 0) (pe_lc (own := [("room", 2)]) (g := gName 2) rfl c_Tree_init.nd (pi_list (pv 1)) (blkOk_by (own := [("room", 2)]) (N := ["self", "rooms", "room"]) (sc := defScope s_Tree_init) (by decide +kernel))
          (fun _ _ _ _ _ => pg_name (i := 2) c_Tree_init.nd rfl (Or.inl rfl)) (fun _ _ _ _ _ => pts_nil) (fun _ _ _ _ _ => pe_tup (pa_cons (pe_ix (ixT K) (pv 2) pe_int (fun _ _ => rfl)) (pa_cons (pe_ix (ixT K) (pv 2) pe_int (fun _ _ => rfl)) pa_nil)))) rfl)), ?_⟩
  refine ⟨_, rfl, a, us, ms, rfl, hS, hR, hne, hz, fun H1 g1 => ?_⟩
  refine ⟨_, rfl, a, rfl, ⟨us, g1.seq hS⟩, fun D nD => ?_⟩
  refine lc_on (as := (List.range ms.length).zip ms) (fun _ => true) (fun km y H => RoomAt H km.1 km.2 y) (g1.seq hS) (by rw [List.length_zip, List.length_range, Nat.min_self]; exact hl) (by rw [List.length_zip, List.length_range]; omega) nD (fun km y H H' acc hD ex ⟨q, e, z⟩ => ⟨q, e, ex _ _ (ne_of z hD (by intro y; cases y)) z⟩) (fun j km v H2 acc C C' hb hv s1 hD hC _ => ?_) fun ys H2 s1 hD hy => ?_
  · obtain ⟨k', m⟩ := km
    rw [List.getElem?_zip_eq_some] at hb
    obtain ⟨hk', hm⟩ := hb
    have hj : j < ms.length := (List.getElem?_eq_some_iff.mp hm).1
    rw [List.getElem?_range hj] at hk'
    injection hk' with hk'
    subst hk'
    obtain ⟨q, rfl, hq⟩ := (hR.2 j m v hm hv).mono (g1.trans s1)
    refine ⟨rfl, q_yes _ _ ?_⟩
    refine q_ix rfl hq at0 (q_ix rfl hq at1 ⟨sz (n := 2) (by decide), fun p np => hC rfl _ _ (same_new np _) ⟨p, rfl, upd_same⟩⟩)
  · rw [filter_true] at hy
    have hyl := Paired.len hy
    rw [List.length_zip, List.length_range, Nat.min_self] at hyl
    refine ⟨_, rfl, x, C, dx, [], rfl, s1 _ _ (g1 _ _ hx), hc, hn, by decide, ?_⟩
    refine k D ys H2 (g1.trans s1) (g1.free nD) hD ⟨hyl, fun k' m v hm hv => ?_⟩
    have hj : k' < ms.length := (List.getElem?_eq_some_iff.mp hm).1
    exact paired_get hy k' (k', m) v (by rw [List.getElem?_zip_eq_some]; exact ⟨List.getElem?_range hj, hm⟩) hv
def spChainI : Sp := fun vs H Q _ => ∃ (x C dx b : Addr) (ms : List Mark), vs = [.ref x, .ref b] ∧ H x = some (.ins C dx []) ∧ Cls K C ∧ NoAttr K C "kept" ∧ SqL K H b (ms.map fun m => .str (S (mt m))) ∧ ms ≠ [] ∧ ms.length ≤ 1000 ∧
  ∀ (p : Addr) (zs : List V) (H1 : Hp), Same H H1 → H p = none → H1 p = some (.lst zs) → RoomsAt H1 ms zs → Q .non (upd H1 x (.ins C dx [("kept", .ref p)]))
theorem ca_chainI {fC fT CT : Addr} (D : Da K "__init__" "Chain.__init__" s_Chain_init ["self", "marks"] fC) (T : Tx mg) (mT : mg "Tree" = some (.ref CT)) (r : ClX.CRead K CT (.type "type")) (v : PySem.W.findCls K (.ref CT) (.type "type") "__init__" = some (.val (.ref fT)))
    (hk : PySem.W.keepIn K (.ref fT) = true) (cT : Ca P w K mg base CX0 3 fT (spTreeI (K := K))) : Ca P w K mg base CX0 4 fC (spChainI (K := K)) := by
  refine D.ok c_Chain_init (fun vs H Q E h => ?_) fun cdv A outer s H vs Q E hr h => ?_
  · obtain ⟨x, C, dx, b, ms, rfl, _⟩ := h
    rfl
  obtain ⟨x, C, dx, b, ms, rfl, hx, hc, hn, hS, hne, hz, k⟩ := h
  obtain ⟨fd, ps, F, bn⟩ := cT.ex
  refine ⟨_, pss_one (ps_expr (pe_ctI (E := E0) mT r v hk F (hr.mono (by omega)) bn pass0 (pa_cons (pv 0) (pa_cons (pe_lc (own := [("k", 2), ("one", 3)]) rfl c_Chain_init.nd (pi_enum rfl T.enumerate (pa_cons (pv 1) pa_nil)) (blkOk_by (own := [("k", 2), ("one", 3)]) (N := ["self", "marks", "k", "one"]) (sc := defScope s_Chain_init) (by decide +kernel))
          (fun _ _ _ _ _ => pgT K (n := 2) rfl (pgs_cons (pg_name (i := 2) c_Chain_init.nd rfl (Or.inl rfl)) (pgs_cons (pg_name (i := 3) c_Chain_init.nd rfl (Or.inl rfl)) pgs_nil))) (fun _ _ _ _ _ => pts_nil) (fun _ _ _ _ _ => pe_tup (pa_cons (pe_op op_sub (pv 2) pe_int) (pa_cons (pv 3) pa_nil)))) pa_nil)))), ?_⟩
  refine ⟨_, rfl, _, rfl, b, _, rfl, hS, fun D nD => ?_⟩
  refine lc_onW walk_enum (as := (List.range ms.length).zip ms) (fun _ => true) (fun km y H => RoomAt H km.1 km.2 y) (fun _ s1 => s1.seq hS) (by rw [List.length_zip, List.length_range, Nat.min_self, List.length_map]) (by rw [List.length_zip, List.length_range]; omega) nD (fun km y H H' acc hD ex ⟨q, e, z⟩ => ⟨q, e, ex _ _ (ne_of z hD (by intro y; cases y)) z⟩) (fun j km v H2 H3 acc C C' hb hv s1 hD hC _ => ?_) fun ys H2 s1 hD hy => ?_
  · obtain ⟨k', m⟩ := km
    rw [List.getElem?_zip_eq_some] at hb
    obtain ⟨hk', hm⟩ := hb
    have hj : j < ms.length := (List.getElem?_eq_some_iff.mp hm).1
    rw [List.getElem?_range hj] at hk'
    injection hk' with hk'
    subst hk'
    obtain ⟨tp, x, y, rfl, nT, rfl, hx, hy⟩ := hv
    injection hx with hx
    subst hx
    have e := map_at (f := fun m : Mark => V.str (S (mt m))) hm hy
    subst e
    have gT := same_new nT (.tup [.int (j : Nat), .str (S (mt m))])
    refine ⟨tp, _, rfl, SqT.of upd_same, rfl, _, _, rfl, _, _, rfl, rfl, rfl, q_yes _ _ ?_⟩
    refine ⟨_, rfl, _, _, rfl, rfl, _, rfl, sz (n := 2) (by decide), fun p np => hC rfl _ _ (gT.trans (same_new np _)) ⟨p, rfl, upd_same⟩⟩
  · rw [filter_true] at hy
    have hyl := Paired.len hy
    rw [List.length_zip, List.length_range, Nat.min_self] at hyl
    refine ⟨x, C, dx, D, ys, ms, rfl, s1 _ _ hx, hc, hn, SqL.of hD, ⟨hyl, fun k' m v hm hv => ?_⟩, hne, hz, fun p zs H3 g3 np hp hR => ?_⟩
    · have hj : k' < ms.length := (List.getElem?_eq_some_iff.mp hm).1
      exact paired_get hy k' (k', m) v (by rw [List.getElem?_zip_eq_some]; exact ⟨List.getElem?_range hj, hm⟩) hv
    · exact k p zs H3 (s1.trans g3) (s1.free np) hp hR
def spHolds : Sp := fun vs H Q _ => ∃ (x C dx a : Addr) (us : List V) (ms : List Mark) (v : V) (s : Say), vs = [.ref x, v] ∧ H x = some (.ins C dx [("kept", .ref a)]) ∧ Cls K C ∧ NoAttr K C "kept" ∧ SqL K H a us ∧ RoomsAt H ms us ∧ ms.length ≤ 1000 ∧ SayAt H s v ∧ s.ht < 130 ∧ NewBl H Q (worthS ms s)
theorem ca_holds {f : Addr} (D : Da K "holds" "Tree.holds" s_Tree_holds ["self", "saying"] f) (cT : Cl P w K mg base CX0 131 "truths_in" (spTruths (K := K) 130)) : Ca P w K mg base CX0 132 f (spHolds (K := K)) := by
  refine D.ok c_Tree_holds (fun vs H Q E h => ?_) fun cdv A outer s H vs Q E hr h => ?_
  · obtain ⟨x, C, dx, a, us, ms, v, s, rfl, _⟩ := h
    rfl
  obtain ⟨x, C, dx, a, us, ms, v, y, rfl, hx, hc, hn, hS, hR, hz, hy, hh, k⟩ := h
  refine ⟨_, pss_one (ps_ret (pe_c0 cT hr (by omega) (pa_cons (pe_fld (pv 0) rfl) (pa_cons (pv 1) (pa_cons pe_dnewK pa_nil))))), ?_⟩
  refine ⟨_, rfl, x, C, dx, _, _, rfl, hx, hc, hn, rfl, _, rfl, fun d nd => ?_⟩
  have g := same_new nd (.dK [])
  exact ⟨a, d, v, us, ms, y, rfl, g.seq hS, hR.mono g, hz, hy.mono g, hh, upd_same, k.mono g⟩
end
end SD
namespace SD
open PySem PySem.Spec PyProof.Rows L2 SX
/-- the places behind t -/
def upsL (n t : Nat) : List Nat := List.range' (t + 1) (n - (t + 1))
/-- the lists of the places behind, told i turns from the end; D another place -/
def UpsI (H : Hp) (D : Addr) (n i : Nat) (vs : List V) : Prop := vs.length = n ∧ ∀ t < n, ∃ q, vs[t]? = some (.ref q) ∧ q ≠ D ∧ H q = some (.lst ((if n ≤ t + 1 + i then upsL n t else []).map fun (j : Nat) => V.int j))
def UpsAt (H : Hp) (n : Nat) (vs : List V) : Prop := vs.length = n ∧ ∀ t < n, ∃ q, vs[t]? = some (.ref q) ∧ H q = some (.lst ((upsL n t).map fun (j : Nat) => V.int j))
theorem UpsAt.mono {H H' : Hp} {n : Nat} {vs : List V} (g : Same H H') (h : UpsAt H n vs) : UpsAt H' n vs := ⟨h.1, fun t ht => by obtain ⟨q, a, b⟩ := h.2 t ht; exact ⟨q, a, g _ _ b⟩⟩
theorem upsL_step {n k : Nat} (h1 : 1 ≤ k) (h2 : k < n) : upsL n (k - 1) = k :: upsL n k := by
  unfold upsL
  rw [show k - 1 + 1 = k by omega, show n - k = (n - (k + 1)) + 1 by omega, List.range'_succ]
theorem upsL_len (n t : Nat) : (upsL n t).length ≤ n := by unfold upsL; rw [List.length_range']; omega
section
variable {P : Program} {w : World} {K : PySem.W.Frag} {mg : Str → Option Value} {base : Heap}
def spUps : Sp := fun vs H Q _ => ∃ (a : Addr) (us : List V) (ms : List Mark), vs = [.ref a] ∧ SqL K H a us ∧ RoomsAt H ms us ∧ ms ≠ [] ∧ ms.length ≤ 1000 ∧
  ∀ (p : Addr) (zs : List V) (H' : Hp), Same H H' → H p = none → H' p = some (.lst zs) → UpsAt H' ms.length zs → Q (.ref p) H'
theorem cl_ups (D : Df K mg "_law_ups" "_law_ups" "_law_ups" s_law_ups ["_law_rooms"]) (T : Tx mg) : Cl P w K mg base CX0 1 "_law_ups" (spUps (K := K)) := by
  refine D.ok c_law_ups (fun vs H Q E h => ?_) fun f cdv A outer s H vs Q E hr h => ?_
  · obtain ⟨a, us, ms, rfl, _⟩ := h
    rfl
  obtain ⟨a, us, ms, rfl, hS, hR, hne, hz, k⟩ := h
  have hl := hR.1
  have hpos := List.length_pos_iff.mpr hne
  refine ⟨_, pss_cons (ps_setLc (i := 1) (own := [("_law_room", 4)]) rfl c_law_ups.nd rfl rfl rfl (pi_list (pv 0)) (blkOk_by (own := [("_law_room", 4)]) (N := ["_law_rooms", "_law_ups_here", "_law_k", "_law_below", "_law_room"]) (sc := defScope s_law_ups) (by decide +kernel))
        (fun _ _ _ _ _ => pg_name (i := 4) c_law_ups.nd rfl (Or.inl rfl)) (fun _ _ _ _ _ => pts_nil) (fun _ _ _ _ _ => pe_lst pa_nil))
    (pss_cons (ps_for PassesOwn.never rfl (pi_range3 rfl T.range (pa_cons (pe_op op_sub (pe_callB call_len_seq rfl T.len PySem.boot_len (pa_cons (pv 0) pa_nil)) pe_int) (pa_cons pe_int (pa_cons (pe_un un_neg pe_int) pa_nil)))) (pg_name (i := 2) c_law_ups.nd rfl (Or.inl rfl))
      (pss_cons (ps_set (i := 3) c_law_ups.nd rfl (Or.inl rfl) (pe_ix ix_tup (pe_ix ix_list (pv 0) (pv 2) (fun _ _ => rfl)) pe_int (fun _ _ => rfl)))
      (pss_one (ps_asg (pe_op op_cat (pe_op op_cat (pe_ix ix_list (pv 1) (pv 3) (fun _ _ => rfl)) (pe_lst (pa_cons (pv 2) pa_nil))) (pe_ix ix_list (pv 1) (pv 2) (fun _ _ => rfl))) (pg_sub (pv 1) (pv 3) set_list)))))
    (pss_one (ps_ret (pv 1)))), ?_⟩
  refine ⟨_, rfl, a, rfl, ⟨us, hS⟩, fun D nD => ?_⟩
  refine lc_on (as := ms) (fun _ => true) (fun _ y H => ∃ q, y = .ref q ∧ q ≠ D ∧ H q = some (.lst [])) hS hl (by omega) nD (fun _ y H H' acc hD ex ⟨q, e, n, z⟩ => ⟨q, e, n, ex _ _ n z⟩) (fun j m v H2 acc C C' hb hv s1 hD hC _ => ?_) fun ys H2 s1 hD hy => ?_
  · refine ⟨rfl, q_yes _ _ ⟨sz (n := 0) (by decide), fun q nq => hC rfl _ _ (same_new nq _) ⟨q, rfl, (ne_of_none hD nq).symm, upd_same⟩⟩⟩
  rw [filter_true] at hy
  have hyl := Paired.len hy
  have hU0 : UpsI H2 D ms.length 0 ys := ⟨hyl.symm, fun t ht => by
    obtain ⟨q, e, n, z⟩ := paired_get hy t _ _ (List.getElem?_eq_getElem ht) (List.getElem?_eq_getElem (by omega))
    refine ⟨q, by rw [← e]; exact List.getElem?_eq_getElem (by omega), n, ?_⟩
    rw [z]
    split
    · have : upsL ms.length t = [] := by unfold upsL; rw [show ms.length - (t + 1) = 0 by omega]; rfl
      rw [this]; rfl
    · rfl⟩
  refine ⟨_, rfl, a, us, rfl, .inl (s1.seq hS), _, _, rfl, rfl, _, rfl, (us.length : Int) - 1, 0, -1, ((us.length : Int) - 1 - 0).toNat, rfl, RgC.neg (by omega) (by omega) (by omega) (by omega), ?_⟩
  have hn : ((us.length : Int) - 1 - 0).toNat = ms.length - 1 := by omega
  rw [hn]
  refine for_it walk_rangeC (fun i σ H3 => ∃ (o2 o3 : Option V) (zs : List V), σ = [some (.ref a), some (.ref D), o2, o3, none] ∧ Exc D H2 H3 ∧ H3 D = some (.lst zs) ∧ UpsI H3 D ms.length i zs) ⟨none, none, ys, rfl, fun _ _ _ q => q, hD, hU0⟩ (fun _ _ _ _ _ => trivial) (fun i v σ H3 H4 hi h hy => ?_) fun σ H3 h => ?_
  · obtain ⟨o3, o4, zs, rfl, ex, hD3, hU⟩ := h
    rw [hy.1, hy.2]
    have hval : (fun i : Nat => V.int ((us.length : Int) - 1 + (i : Nat) * (-1))) i = V.int ((ms.length - 1 - i : Nat) : Int) := by
      show V.int _ = V.int _
      congr 1
      omega
    rw [hval]
    have hk : ms.length - 1 - i < ms.length := by omega
    have huk : us[ms.length - 1 - i]? = some us[ms.length - 1 - i] := List.getElem?_eq_getElem (by omega)
    have gS : Same H H3 := fun c o q => ex _ _ (ne_of_none q nD) (s1 _ _ q)
    obtain ⟨q, hq0, hq⟩ := (hR.2 _ _ _ (List.getElem?_eq_getElem hk) huk).mono gS
    refine ⟨_, rfl, _, rfl, a, us, _, _, rfl, rfl, gS.seq hS, atI_nat (j := ms.length - 1 - i) huk, q, _, _, _, hq0, rfl, SqT.of hq, at0, ?_⟩
    obtain ⟨q1, z1, n1, e1⟩ := hU.2 (ms.length - 1 - i - 1) (by omega)
    obtain ⟨q2, z2, n2, e2⟩ := hU.2 (ms.length - 1 - i) hk
    rw [if_neg (by omega)] at e1
    rw [if_pos (by omega)] at e2
    have hlenU := upsL_len ms.length (ms.length - 1 - i)
    have c1 : atI zs (((ms.length - 1 - i : Nat) : Int) - 1) = some (.ref q1) := by
      rw [show ((ms.length - 1 - i : Nat) : Int) - 1 = ((ms.length - 1 - i - 1 : Nat) : Int) by omega]
      exact atI_nat z1
    refine ⟨_, rfl, _, rfl, D, zs, _, _, rfl, rfl, SqL.of hD3, c1, _, rfl, sz (n := 1) (by decide), fun r nr => ?_⟩
    have g3 := same_new nr (.lst [.int ((ms.length - 1 - i : Nat) : Int)])
    refine ⟨q1, r, _, _, rfl, rfl, g3 _ _ e1, upd_same, sz (n := 1) (by decide), fun p np => ?_⟩
    have g4 := same_new np (.lst (([] : List Nat).map (fun (j : Nat) => V.int j) ++ [.int ((ms.length - 1 - i : Nat) : Int)]))
    refine ⟨_, rfl, _, rfl, D, zs, _, _, rfl, rfl, SqL.of (g4 _ _ (g3 _ _ hD3)), atI_nat z2, p, q2, _, _, rfl, rfl, upd_same, g4 _ _ (g3 _ _ e2), szm (by simp; omega), fun p2 np2 => ?_⟩
    have g5 := same_new np2 (.lst (([] : List Nat).map (fun (j : Nat) => V.int j) ++ [.int ((ms.length - 1 - i : Nat) : Int)] ++ (upsL ms.length (ms.length - 1 - i)).map fun (j : Nat) => V.int j))
    have gg := g3.trans (g4.trans g5)
    have hD5 := gg _ _ hD3
    have np2D : p2 ≠ D := fun e => by
      have := (g3.trans g4) _ _ hD3
      rw [← e, np2] at this
      cases this
    refine ⟨_, rfl, _, rfl, D, zs, _, ms.length - 1 - i - 1, rfl, rfl, hD5, ixN_nat (by omega) (by rw [hU.1]; omega), ?_⟩
    refine ⟨_, _, _, rfl, fun c o hc z => by rw [upd_ne hc]; exact gg _ _ (ex _ _ hc z), upd_same, by rw [List.length_set]; exact hU.1, fun t ht => ?_⟩
    by_cases h3 : t = ms.length - 1 - i - 1
    · refine ⟨p2, by rw [h3, List.getElem?_set_self (by rw [hU.1]; omega)], np2D, ?_⟩
      rw [upd_ne np2D, upd_same, if_pos (by omega), h3, upsL_step (by omega) hk]
      rfl
    · obtain ⟨q3, z3, n3, e3⟩ := hU.2 t ht
      refine ⟨q3, by rw [List.getElem?_set_ne (Ne.symm h3)]; exact z3, n3, ?_⟩
      rw [upd_ne n3, gg _ _ e3]
      by_cases h1 : ms.length ≤ t + 1 + i
      · rw [if_pos h1, if_pos (by omega)]
      · rw [if_neg h1, if_neg (by omega)]
  · obtain ⟨o3, o4, zs, rfl, ex, hD3, hU⟩ := h
    refine ⟨_, rfl, k D zs H3 (fun c o q => ex _ _ (ne_of_none q nD) (s1 _ _ q)) nD hD3 ⟨hU.1, fun t ht => ?_⟩⟩
    obtain ⟨q3, z3, n3, e3⟩ := hU.2 t ht
    refine ⟨q3, z3, ?_⟩
    rw [e3]
    by_cases h1 : ms.length ≤ t + 1 + (ms.length - 1)
    · rw [if_pos h1]
    · exact absurd (by omega) h1
end
end SD
namespace SD
open PySem PySem.Spec PyProof.Rows L2 SX
theorem piL (K : PySem.W.Frag) {X : Cx} {tg e : Expr} {te : TE} (he : PE X e te) (h : X.K = K := by rfl) : PI X tg e (iList K te) := by
  subst h
  exact pi_list he
def scUp : Scope := { kind := .function, names := [(".0", .local), ("_law_up", .local), ("all", .globalImplicit), ("_law_one", .cell)], isGenerator := false, isCoroutine := false }
section
variable {P : Program} {w : World} {K : PySem.W.Frag} {mg : Str → Option Value} {base : Heap}
def spWorth (n : Nat) : Sp := fun vs H Q _ => ∃ (a u : Addr) (v : V) (us zs : List V) (ms : List Mark) (s : Say), vs = [.ref a, .ref u, v] ∧ SqL K H a us ∧ RoomsAt H ms us ∧ ms.length ≤ 1000 ∧ SqL K H u zs ∧ UpsAt H ms.length zs ∧ SayAt H s v ∧ s.ht < n ∧ NewBl H Q (worthS ms s)
theorem nth_range {l : List Nat} {j : Nat} {x : Nat} {y : V} (h : l[j]? = some x) (h' : (l.map fun (j : Nat) => V.int j)[j]? = some y) : y = .int x := map_at (f := fun (j : Nat) => V.int j) h h'
theorem drop_ups (bs : List Bool) (t : Nat) : (upsL bs.length t).map (fun j => bs.getD j false) = bs.drop (t + 1) := by
  unfold upsL
  apply List.ext_getElem?
  intro i
  rw [List.getElem?_map, List.getElem?_drop]
  by_cases h : t + 1 + i < bs.length
  · rw [List.getElem?_range' (by omega)]
    simp [List.getD, List.getElem?_eq_getElem h]
  · rw [List.getElem?_eq_none (by rw [List.length_range']; omega), List.getElem?_eq_none (by omega)]
    rfl
theorem cl_worth (D : Df K mg "_law_worth" "_law_worth" "_law_worth" s_law_worth ["_law_rooms", "_law_ups_here", "_law_saying"]) (T : Tx mg) : ∀ n : Nat, Cl P w K mg base CX0 (n + 1) "_law_worth" (spWorth (K := K) n)
  | 0 => D.no fun vs H Q E h => by
    obtain ⟨a, u, v, us, zs, ms, s, _, _, _, _, _, _, _, h, _⟩ := h
    omega
  | n + 1 => by
    have ih := cl_worth D T n
    refine D.ok c_law_worth (fun vs H Q E h => ?_) fun f cdv A outer s H vs Q E hr h => ?_
    · obtain ⟨a, u, v, us, zs, ms, s, rfl, _⟩ := h
      rfl
    obtain ⟨a, u, v, us, zs, ms, x, rfl, hS, hR, hz, hZ, hU, hx, hh, k⟩ := h
    have hl := hR.1
    have N0 : List Str := ["_law_rooms", "_law_ups_here", "_law_saying", "_law_word", "_law_one", "_law_other", "_law_room", "_law_truth", "_law_up", "_law_a", "_law_b", "_law_j"]
    refine ⟨_, pss_cons (ps_set (i := 3) c_law_worth.nd rfl (Or.inl rfl) (pe_ix ix_tup (pv 2) pe_int (fun _ _ => rfl)))
      (pss_cons (ps_if (pt_cmpR op_eq (pv 3) pe_str (nomark _)) (pss_one (ps_ret (pe_lc (own := [("_law_room", 6)]) (g := gName 6) rfl c_law_worth.nd (pi_list (pv 0)) (blkOk_by (own := [("_law_room", 6)]) (N := ["_law_rooms", "_law_ups_here", "_law_saying", "_law_word", "_law_one", "_law_other", "_law_room", "_law_truth", "_law_up", "_law_a", "_law_b", "_law_j"]) (sc := defScope s_law_worth) (by decide +kernel))
          (fun _ _ _ _ _ => pg_name (i := 6) c_law_worth.nd rfl (Or.inl rfl)) (fun _ _ _ _ _ => pts_nil) (fun _ _ _ _ _ => pe_bl)))) pss_nil)
      (pss_cons (ps_if (pt_cmpR op_eq (pv 3) pe_str (nomark _)) (pss_one (ps_ret (pe_lc (own := [("_law_room", 6)]) (g := gName 6) rfl c_law_worth.nd (pi_list (pv 0)) (blkOk_by (own := [("_law_room", 6)]) (N := ["_law_rooms", "_law_ups_here", "_law_saying", "_law_word", "_law_one", "_law_other", "_law_room", "_law_truth", "_law_up", "_law_a", "_law_b", "_law_j"]) (sc := defScope s_law_worth) (by decide +kernel))
          (fun _ _ _ _ _ => pg_name (i := 6) c_law_worth.nd rfl (Or.inl rfl)) (fun _ _ _ _ _ => pts_nil) (fun _ _ _ _ _ => pe_cmpR op_in_sign (pe_ix (ixT K) (pv 2) pe_int (fun _ _ => rfl)) (pe_ix (ixT K) (pv 6) pe_int (fun _ _ => rfl)) rfl)))) pss_nil)
      (pss_cons (ps_set (i := 4) c_law_worth.nd rfl (Or.inr rfl) (pe_c0 ih hr (by omega) (pa_cons (pv 0) (pa_cons (pv 1) (pa_cons (pe_ix ix_tup (pv 2) pe_int (fun _ _ => rfl)) pa_nil)))))
      (pss_cons (ps_if (pt_cmpR op_eq (pv 3) pe_str (nomark _)) (pss_one (ps_ret (pe_lc (own := [("_law_truth", 7)]) (g := gName 7) rfl c_law_worth.nd (pi_list (pv 4)) (blkOk_by (own := [("_law_truth", 7)]) (N := ["_law_rooms", "_law_ups_here", "_law_saying", "_law_word", "_law_one", "_law_other", "_law_room", "_law_truth", "_law_up", "_law_a", "_law_b", "_law_j"]) (sc := defScope s_law_worth) (by decide +kernel))
          (fun _ _ _ _ _ => pg_name (i := 7) c_law_worth.nd rfl (Or.inl rfl)) (fun _ _ _ _ _ => pts_nil) (fun _ _ _ _ _ => pe_not (pv 7))))) pss_nil)
      (pss_cons (ps_if (pt_cmpR op_eq (pv 3) pe_str (nomark _)) (pss_one (ps_ret (pe_lc (own := [("_law_up", 8)]) (g := gName 8) rfl c_law_worth.nd (pi_list (pv 1)) (blkOk_by (own := [("_law_up", 8)]) (N := ["_law_rooms", "_law_ups_here", "_law_saying", "_law_word", "_law_one", "_law_other", "_law_room", "_law_truth", "_law_up", "_law_a", "_law_b", "_law_j"]) (sc := defScope s_law_worth) (by decide +kernel))
          (fun _ _ _ _ _ => pg_name (i := 8) c_law_worth.nd rfl (Or.inl rfl)) (fun _ _ _ _ _ => pts_nil) (fun _ _ _ _ _ => pe_callB (allL K rfl) rfl T.all (by decide +kernel) (pa_cons
            (pe_lc (own := [("_law_j", 11)]) (g := gName 11) rfl c_law_worth.nd (piL K (pv 8)) (blkOk_by (own := [("_law_j", 11)]) (N := ["_law_rooms", "_law_ups_here", "_law_saying", "_law_word", "_law_one", "_law_other", "_law_room", "_law_truth", "_law_up", "_law_a", "_law_b", "_law_j"]) (sc := scUp) (by decide +kernel))
              (fun _ _ _ _ _ => pg_name (i := 11) c_law_worth.nd rfl (Or.inl rfl)) (fun _ _ _ _ _ => pts_nil) (fun _ _ _ _ _ => pe_ix (ixL K) (pv 4) (pv 11) (fun _ _ => rfl))) pa_nil))))) pss_nil)
      (pss_cons (ps_set (i := 5) c_law_worth.nd rfl (Or.inl rfl) (pe_c0 ih hr (by omega) (pa_cons (pv 0) (pa_cons (pv 1) (pa_cons (pe_ix ix_tup (pv 2) pe_int (fun _ _ => rfl)) pa_nil)))))
      (pss_cons (ps_if (pt_cmpR op_eq (pv 3) pe_str (nomark _)) (pss_one (ps_ret (pe_lc (own := [("_law_a", 9), ("_law_b", 10)]) rfl c_law_worth.nd (pi_zip rfl T.zip (pa_cons (pv 4) (pa_cons (pv 5) pa_nil))) (blkOk_by (own := [("_law_a", 9), ("_law_b", 10)]) (N := ["_law_rooms", "_law_ups_here", "_law_saying", "_law_word", "_law_one", "_law_other", "_law_room", "_law_truth", "_law_up", "_law_a", "_law_b", "_law_j"]) (sc := defScope s_law_worth) (by decide +kernel))
          (fun _ _ _ _ _ => pgT K (n := 2) rfl (pgs_cons (pg_name (i := 9) c_law_worth.nd rfl (Or.inl rfl)) (pgs_cons (pg_name (i := 10) c_law_worth.nd rfl (Or.inl rfl)) pgs_nil))) (fun _ _ _ _ _ => pts_nil) (fun _ _ _ _ _ => pe_and (pv 9) (pe_one (pv 10)))))) pss_nil)
      (pss_cons (ps_if (pt_cmpR op_eq (pv 3) pe_str (nomark _)) (pss_one (ps_ret (pe_lc (own := [("_law_a", 9), ("_law_b", 10)]) rfl c_law_worth.nd (pi_zip rfl T.zip (pa_cons (pv 4) (pa_cons (pv 5) pa_nil))) (blkOk_by (own := [("_law_a", 9), ("_law_b", 10)]) (N := ["_law_rooms", "_law_ups_here", "_law_saying", "_law_word", "_law_one", "_law_other", "_law_room", "_law_truth", "_law_up", "_law_a", "_law_b", "_law_j"]) (sc := defScope s_law_worth) (by decide +kernel))
          (fun _ _ _ _ _ => pgT K (n := 2) rfl (pgs_cons (pg_name (i := 9) c_law_worth.nd rfl (Or.inl rfl)) (pgs_cons (pg_name (i := 10) c_law_worth.nd rfl (Or.inl rfl)) pgs_nil))) (fun _ _ _ _ _ => pts_nil) (fun _ _ _ _ _ => pe_or (pv 9) (pe_one (pv 10)))))) pss_nil)
      (pss_one (ps_ret (pe_lc (own := [("_law_a", 9), ("_law_b", 10)]) rfl c_law_worth.nd (pi_zip rfl T.zip (pa_cons (pv 4) (pa_cons (pv 5) pa_nil))) (blkOk_by (own := [("_law_a", 9), ("_law_b", 10)]) (N := ["_law_rooms", "_law_ups_here", "_law_saying", "_law_word", "_law_one", "_law_other", "_law_room", "_law_truth", "_law_up", "_law_a", "_law_b", "_law_j"]) (sc := defScope s_law_worth) (by decide +kernel))
          (fun _ _ _ _ _ => pgT K (n := 2) rfl (pgs_cons (pg_name (i := 9) c_law_worth.nd rfl (Or.inl rfl)) (pgs_cons (pg_name (i := 10) c_law_worth.nd rfl (Or.inl rfl)) pgs_nil))) (fun _ _ _ _ _ => pts_nil) (fun _ _ _ _ _ => pe_or (pv 10) (pe_one (pe_not (pv 9))))))))))))))), ?_⟩
    refine q_word rfl hx ?_
    refine q_slot rfl (ite2 (fun c1 => ?_) fun c1 => ?_)
    · have e := word_no.mp (of_decide_eq_true c1)
      subst e
      refine ⟨_, rfl, a, rfl, ⟨us, hS⟩, fun D nD => ?_⟩
      refine lc_on (as := ms) (fun _ => true) (fun _ y _ => y = .bl false) hS hl (by omega) nD (fun _ _ _ _ _ _ _ h => h) (fun j m v H2 acc C C' hb hv s1 hD hC _ => ⟨rfl, q_yes _ _ (hC rfl _ _ (Same.refl _) rfl)⟩) fun ys H2 s1 hD hy => ?_
      rw [filter_true] at hy
      refine k D H2 s1 nD ?_
      rw [hD, paired_eq (f := fun _ : Mark => V.bl false) hy]
      simp only [worthS, List.map_map]; rfl
    refine q_slot rfl (ite2 (fun c2 => ?_) fun c2 => ?_)
    · have e := word_letter.mp (of_decide_eq_true c2)
      cases x <;> simp [Say.isLetter] at e
      rename_i l
      obtain ⟨r, rfl, hr2⟩ := id hx
      refine ⟨_, rfl, a, rfl, ⟨us, hS⟩, fun D nD => ?_⟩
      refine lc_on (as := ms) (fun _ => true) (fun m y _ => y = .bl (m l)) hS hl (by omega) nD (fun _ _ _ _ _ _ _ h => h) (fun j m v H2 acc C C' hm hv s1 hD hC _ => ?_) fun ys H2 s1 hD hy => ?_
      · obtain ⟨q, rfl, hq⟩ := (hR.2 j m v hm hv).mono s1
        refine ⟨rfl, q_yes _ _ ?_⟩
        refine q_ix rfl (s1 _ _ hr2) at1 (q_ix rfl hq at1 ⟨l.code, S (mt m), rfl, rfl, ?_⟩)
        rw [dec_mem]
        exact hC rfl _ _ (Same.refl _) rfl
      · rw [filter_true] at hy
        refine k D H2 s1 nD ?_
        rw [hD, paired_eq (f := fun m : Mark => V.bl (m l)) hy]
        simp only [worthS, List.map_map]; rfl
    have hk1 : ∃ q y r, v = .ref q ∧ H q = some (.tup (.str x.word :: y :: r)) ∧ ∃ s1 : Say, SayAt H s1 y ∧ s1.ht < n ∧ ((x = .neg s1 ∧ x.word = "not") ∨ x = .shown s1 ∨ ∃ o s2 z, x = .bin o s1 s2 ∧ r = [z] ∧ SayAt H s2 z ∧ s2.ht < n) := by
      cases x with
      | no => exact absurd (decide_eq_true rfl) c1
      | letter => exact absurd (decide_eq_true rfl) c2
      | neg s1 => obtain ⟨q, y, rfl, hq, hy⟩ := hx; exact ⟨q, y, _, rfl, hq, s1, hy, by simp only [Say.ht] at hh; omega, .inl ⟨rfl, rfl⟩⟩
      | shown s1 => obtain ⟨q, y, rfl, hq, hy⟩ := hx; exact ⟨q, y, _, rfl, hq, s1, hy, by simp only [Say.ht] at hh; omega, .inr (.inl rfl)⟩
      | bin o s1 s2 => obtain ⟨q, y, z, rfl, hq, hy, hz⟩ := hx; simp only [Say.ht] at hh; exact ⟨q, y, _, rfl, hq, s1, hy, by omega, .inr (.inr ⟨o, s2, z, rfl, rfl, hz, by omega⟩)⟩
    obtain ⟨q, y, r, rfl, hq, s1, hy, hh1, cases3⟩ := hk1
    refine ⟨_, rfl, _, rfl, ?_⟩
    refine q_ix rfl hq at1 ⟨a, u, y, us, zs, ms, s1, rfl, hS, hR, hz, hZ, hU, hy, hh1, fun p H1 g1 np hp => ?_⟩
    have hwl := worthS_len ms s1
    have hpS : SqL K H1 p ((worthS ms s1).map V.bl) := SqL.of hp
    refine q_slot rfl (ite2 (fun c3 => ?_) fun c3 => ?_)
    · rcases cases3 with ⟨rfl, _⟩ | rfl | ⟨o, s2, z, rfl, _⟩
      rotate_left
      · exact absurd (of_decide_eq_true c3).symm w_ne.2.2
      · exact absurd (of_decide_eq_true c3) (oword_ne o).2.2.1
      refine ⟨_, rfl, p, rfl, ⟨_, hpS⟩, fun D nD => ?_⟩
      refine lc_on (as := worthS ms s1) (fun _ => true) (fun b y _ => y = .bl (!b)) hpS (by rw [List.length_map]) (by omega) nD (fun _ _ _ _ _ _ _ h => h) (fun j b v H2 acc C C' hb hv s1 hD hC _ => ?_) fun ys H2 s1' hD hy => ?_
      · have e := map_at hb hv
        subst e
        exact ⟨rfl, q_yes _ _ ⟨_, rfl, b, rfl, hC rfl _ _ (Same.refl _) rfl⟩⟩
      · rw [filter_true] at hy
        refine k D H2 (g1.trans s1') (g1.free nD) ?_
        rw [hD, paired_eq (f := fun b : Bool => V.bl (!b)) hy, map_not]; rfl
    refine q_slot rfl (ite2 (fun c4 => ?_) fun c4 => ?_)
    · rcases cases3 with ⟨rfl, _⟩ | rfl | ⟨o, s2, z, rfl, _⟩
      · exact absurd (decide_eq_true rfl) c3
      · refine ⟨_, rfl, u, rfl, ⟨_, g1.seq hZ⟩, fun D nD => ?_⟩
        refine lc_on (as := List.range ms.length) (fun _ => true) (fun t y _ => y = .bl (((worthS ms s1).drop (t + 1)).all id)) (g1.seq hZ) (by rw [List.length_range, hU.1]) (by rw [List.length_range]; omega) nD (fun _ _ _ _ _ _ _ h => h) (fun j t v H2 acc C C' hb hv s2 hD hC _ => ?_) fun ys H2 s2 hD hy => ?_
        · have hj : j < ms.length := by have := (List.getElem?_eq_some_iff.mp hb).1; rwa [List.length_range] at this
          rw [List.getElem?_range hj] at hb
          injection hb with hb
          subst hb
          obtain ⟨b, hb1, hb2⟩ := ((hU.mono g1).mono s2).2 j hj
          rw [hv] at hb1
          injection hb1 with hb1
          subst hb1
          have hbS : SqL K H2 b ((upsL ms.length j).map fun (j : Nat) => V.int j) := SqL.of hb2
          have hul := upsL_len ms.length j
          refine ⟨rfl, q_yes _ _ ⟨_, rfl, b, rfl, ⟨_, hbS⟩, fun D2 nD2 => ?_⟩⟩
          refine lc_on (as := upsL ms.length j) (fun _ => true) (fun i y _ => y = .bl ((worthS ms s1).getD i false)) hbS (by rw [List.length_map]) (by omega) nD2 (fun _ _ _ _ _ _ _ h => h) (fun i jj v H3 acc2 C2 C2' hi hv2 s3 hD3 hC2 _ => ?_) fun zs2 H3 s3 hD3 hy2 => ?_
          · have e := nth_range hi hv2
            subst e
            have hjj : jj < (worthS ms s1).length := by
              have := List.mem_of_getElem? hi
              unfold upsL at this
              rw [List.mem_range'] at this
              obtain ⟨i', h1, h2⟩ := this
              omega
            refine ⟨rfl, q_yes _ _ ⟨_, rfl, _, rfl, p, _, _, _, rfl, rfl, s3.seq (s2.seq hpS), atI_map rfl (List.getElem?_eq_getElem hjj), hC2 rfl _ _ (Same.refl _) ?_⟩⟩
            simp [List.getD, List.getElem?_eq_getElem hjj]
          · rw [filter_true] at hy2
            refine ⟨D2, (worthS ms s1).drop (j + 1), rfl, SqL.of ?_, hC rfl _ _ s3 rfl⟩
            rw [hD3, paired_eq (f := fun i : Nat => V.bl ((worthS ms s1).getD i false)) hy2, ← drop_ups, hwl, List.map_map]; rfl
        · rw [filter_true] at hy
          refine k D H2 (g1.trans s2) (g1.free nD) ?_
          rw [hD, paired_eq (f := fun t : Nat => V.bl (((worthS ms s1).drop (t + 1)).all id)) hy]
          show some (HO.lst _) = some (HO.lst ((aboves (worthS ms s1)).map V.bl))
          congr 2
          apply List.ext_getElem?
          intro t
          rw [List.getElem?_map, List.getElem?_map]
          by_cases ht : t < ms.length
          · rw [List.getElem?_range ht, aboves_get _ _ (by rw [hwl]; exact ht)]; rfl
          · rw [List.getElem?_eq_none (by rw [List.length_range]; omega), List.getElem?_eq_none (by rw [aboves_len, hwl]; omega)]; rfl
      · exact absurd (of_decide_eq_true c4) (oword_ne o).2.2.2
    · rcases cases3 with ⟨rfl, _⟩ | rfl | ⟨o, s2, z, rfl, rfl, hz2, hh2⟩
      · exact absurd (decide_eq_true rfl) c3
      · exact absurd (decide_eq_true rfl) c4
      refine ⟨_, rfl, _, rfl, ?_⟩
      refine q_ix rfl (g1 _ _ hq) at2 ⟨a, u, z, us, zs, ms, s2, rfl, g1.seq hS, hR.mono g1, hz, g1.seq hZ, hU.mono g1, hz2.mono g1, hh2, fun p2 H2 g2 np2 hp2 => ?_⟩
      have hwl2 := worthS_len ms s2
      have hX := g2.seq hpS
      have hY : SqL K H2 p2 ((worthS ms s2).map V.bl) := SqL.of hp2
      have hzl : ((worthS ms s1).zip (worthS ms s2)).length = min ((worthS ms s1).map V.bl).length ((worthS ms s2).map V.bl).length := by simp
      have hzz : ((worthS ms s1).zip (worthS ms s2)).length ≤ 50000 := by rw [List.length_zip]; omega
      have go : ∀ (te : TE) (D : Addr) (σ : L2.St), H2 D = none → (∀ (x y : Bool) (H3 : Hp) (C : V → Hp → Prop), C (.bl (bop o x y)) H3 → te (((wipe σ [9, 10]).set 9 (some (.bl x))).set 10 (some (.bl y))) H3 C) → (∀ x y, wipe (((wipe σ [9, 10]).set 9 (some (.bl x))).set 10 (some (.bl y))) [9, 10] = wipe σ [9, 10]) →
          ∃ W : Nat → Nat → Hp → Prop, (∃ m, W 0 m (upd H2 D (.lst []))) ∧ ∀ i m H', W i m H' →
          ((Itz K p p2).stop i H' ∧ Q (.ref D) H') ∨ ((Itz K p p2).go i H' ∧ ∃ Nx : Hp → Prop, (∀ H', Nx H' → ∃ m', m' < m ∧ W (i + 1) m' H') ∧ ∀ x H'', (Itz K p p2).yld i H' x H'' → gTup K 2 (gCons (gName 9) (gCons (gName 10) gNil)) x (wipe σ [9, 10]) H'' fun σ2 H2 => wipe σ2 [9, 10] = wipe σ [9, 10] ∧ tYes σ2 H2 fun b H3 =>
            if b = true then te σ2 H3 fun y H4 => ∃ acc, H4 D = some (.lst acc) ∧ acc.length < sizeLine ∧ Nx (upd H4 D (.lst (acc ++ [y]))) else Nx H3) := by
        intro te D σ nD hte hw
        refine lc_onW (walk_zip hzl) (as := (worthS ms s1).zip (worthS ms s2)) (fun _ => true) (fun p y _ => y = .bl (bop o p.1 p.2)) (fun _ s1 => ⟨s1.seq hX, s1.seq hY⟩) rfl hzz nD (fun _ _ _ _ _ _ _ h => h) (fun j p v H2 H3 acc C C' hp hv s1 hD hC _ => ?_) fun zs H3 s3 hD hy => ?_
        · obtain ⟨tp, x, y, rfl, nT, rfl, hx, hy⟩ := hv
          obtain ⟨rfl, rfl⟩ := zip_get hp hx hy
          refine ⟨tp, _, rfl, SqT.of upd_same, rfl, _, _, rfl, _, _, rfl, rfl, hw _ _, q_yes _ _ ?_⟩
          exact hte _ _ _ _ (hC rfl _ _ (same_new nT _) rfl)
        · rw [filter_true] at hy
          refine k D H3 (g1.trans (g2.trans s3)) (g1.free (g2.free nD)) ?_
          rw [hD, paired_eq (f := fun p : Bool × Bool => V.bl (bop o p.1 p.2)) hy, worth_bin, ← zipW, List.map_map]; rfl
      refine q_slot rfl ?_
      cases o with
      | conj =>
        refine ite2 (fun _ => ?_) fun z => absurd (show decide (Op.conj.word = ("and" : Str)) = true by decide +kernel) z
        refine ⟨_, rfl, _, rfl, p, p2, _, _, rfl, hX, hY, fun D nD => go _ D _ nD (fun x y H3 C h => ?_) fun _ _ => rfl⟩
        refine ⟨_, rfl, x, rfl, ?_⟩
        cases x
        · exact h
        · exact ⟨_, rfl, h⟩
      | disj =>
        refine ite2 (fun z => absurd z (show ¬ decide (Op.disj.word = ("and" : Str)) = true by decide +kernel)) fun _ => ?_
        refine q_slot rfl (ite2 (fun _ => ?_) fun z => absurd (show decide (Op.disj.word = ("or" : Str)) = true by decide +kernel) z)
        refine ⟨_, rfl, _, rfl, p, p2, _, _, rfl, hX, hY, fun D nD => go _ D _ nD (fun x y H3 C h => ?_) fun _ _ => rfl⟩
        refine ⟨_, rfl, x, rfl, ?_⟩
        cases x
        · exact ⟨_, rfl, h⟩
        · exact h
      | impl =>
        refine ite2 (fun z => absurd z (show ¬ decide (Op.impl.word = ("and" : Str)) = true by decide +kernel)) fun _ => ?_
        refine q_slot rfl (ite2 (fun z => absurd z (show ¬ decide (Op.impl.word = ("or" : Str)) = true by decide +kernel)) fun _ => ?_)
        refine ⟨_, rfl, _, rfl, p, p2, _, _, rfl, hX, hY, fun D nD => go _ D _ nD (fun x y H3 C h => ?_) fun _ _ => rfl⟩
        refine ⟨_, rfl, y, rfl, ?_⟩
        cases y
        · refine ⟨_, rfl, x, rfl, ?_⟩
          cases x <;> exact h
        · cases x <;> exact h
end
end SD
namespace SD
open PySem PySem.Spec PyProof.Rows L2 SX
section
variable {P : Program} {w : World} {K : PySem.W.Frag} {mg : Str → Option Value} {base : Heap}
/-! # a chain that is made -/
/-- Chain: its class, its __init__, its holds -/
structure ChainC (P : Program) (w : World) (K : PySem.W.Frag) (mg : Str → Option Value) (base : Heap) : Prop where
  at_ : mg "Chain" = some (xc K "Chain")
  c : Cls K (He.ga K "Chain")
  n : NoAttr K (He.ga K "Chain") "kept"
  ini : ∃ f, Mk K (He.ga K "Chain") f ∧ Ca P w K mg base CX0 4 f (spChainI (K := K))
  hol : ∃ f, Meth K (He.ga K "Chain") "holds" f ∧ Ca P w K mg base CX0 132 f (spHolds (K := K))
theorem mk_chain {H1 : Hp} {C b x dx : Addr} {ms : List Mark} {Q : VK} {E : XK} (hc : Cls K C) (hn : NoAttr K C "kept") (hS : SqL K H1 b (ms.map fun m => .str (S (mt m)))) (hne : ms ≠ []) (hz : ms.length ≤ 1000) (nx : H1 x = none) (nd : H1 dx = none) (ne : dx ≠ x)
    (k : ∀ (p : Addr) (zs : List V) (H2 : Hp), Same H1 H2 → H2 x = some (.ins C dx [("kept", .ref p)]) → H2 p = some (.lst zs) → RoomsAt H2 ms zs → Q .non H2) :
    spChainI (K := K) (.ref x :: ([V.ref b] ++ [])) (upd (upd H1 dx (.own x)) x (.ins C dx [])) Q E := by
  have g : Same H1 (upd (upd H1 dx (.own x)) x (.ins C dx [])) := fun c o q => by rw [upd_ne (ne_of_none q nx), upd_ne (ne_of_none q nd)]; exact q
  refine ⟨x, C, dx, b, ms, rfl, upd_same, hc, hn, g.seq hS, hne, hz, fun p zs H2 g2 np hp hR => ?_⟩
  have nex : ∀ {c : Addr} {o : HO}, H2 c = some o → (∀ fs, o ≠ .ins C dx fs) → c ≠ x := fun {c o} q h e => by
    rw [e, g2 _ _ upd_same] at q
    injection q with q
    exact h _ q.symm
  have px : p ≠ x := nex hp fun fs z => by cases z
  refine k p zs _ (fun c o q => ?_) upd_same (by rw [upd_ne px]; exact hp) ⟨hR.1, fun k' m v hm hv => ?_⟩
  · rw [upd_ne (ne_of_none q nx)]; exact g2 _ _ (g _ _ q)
  · obtain ⟨q, e, z⟩ := hR.2 k' m v hm hv
    exact ⟨q, e, by rw [upd_ne (nex z fun fs z => by cases z)]; exact z⟩
/-! # row_of -/
def noM : Mark := fun _ => false
theorem mt_noM : mt noM = [] := rfl
def rowMs (s : Say) : List Mark := List.replicate (s.depth + 1) noM
def spRow : Sp := fun vs H Q E => ∃ (v : V) (s : Say), vs = [v] ∧ SayAt H s v ∧ s.ht < 130 ∧ s.size ≤ 20000 ∧ (∀ c r, lets s = c :: r → Rz K H E (.letter c)) ∧ (lets s = [] → NewBl H Q (worthS (rowMs s) s).reverse)
theorem cl_row (D : Df K mg "row_of" "row_of" "row_of" s_row_of ["saying"]) (T : Tx mg) (cL : Cl P w K mg base CX0 154 "letters_of" spLetters) (cD : Cl P w K mg base CX0 131 "depth_of" (spDepth 130)) (C : ChainC P w K mg base) (X : Xi P w K mg base "HasLetter" "letter") :
    Cl P w K mg base (L2.CX P w) 155 "row_of" (spRow (K := K)) := by
  obtain ⟨fI, M, cI⟩ := C.ini
  obtain ⟨fd, ps, FI, bI⟩ := cI.ex
  obtain ⟨fh, Mh, cH⟩ := C.hol
  obtain ⟨fdh, psh, FH, bH⟩ := cH.ex
  refine D.okX c_row_of (fun vs H Q E h => ?_) fun f cdv A outer s H vs Q E hr h => ?_
  · obtain ⟨v, s, rfl, _⟩ := h
    rfl
  obtain ⟨v, x, rfl, hx, hh, hz, kE, kQ⟩ := h
  refine ⟨_, pss_cons (ps_set (i := 1) c_row_of.nd rfl (Or.inl rfl) (pe_c0 cL hr (by omega) (pa_cons (pv 0) pa_nil)))
    (pss_cons (ps_if (pt_cmpR op_gt (pe_callB call_len_seq rfl T.len PySem.boot_len (pa_cons (pv 1) pa_nil)) pe_int (nomark _)) (pss_one (ps_raise rfl (takes_of rfl rfl rfl rfl) (pmk1 X hr (by omega) (pa_cons (pe_ix ix_list (pv 1) pe_int (fun _ _ => rfl)) pa_nil)))) pss_nil)
    (pss_cons (ps_set (i := 2) c_row_of.nd rfl (Or.inl rfl) (pe_make (E := E0) M FI (hr.mono (by omega)) rfl C.at_ bI .nil pass0 (pa_cons
      (pe_lc (own := [("k", 3)]) (g := gName 3) rfl c_row_of.nd (pi_range1 rfl T.range (pa_cons (pe_op op_add (pe_c0 cD hr (by omega) (pa_cons (pv 0) pa_nil)) pe_int) pa_nil)) (blkOk_by (own := [("k", 3)]) (N := ["saying", "letters", "chain", "k"]) (sc := defScope s_row_of) (by decide +kernel))
        (fun _ _ _ _ _ => pg_name (i := 3) c_row_of.nd rfl (Or.inl rfl)) (fun _ _ _ _ _ => pts_nil) (fun _ _ _ _ _ => pe_str)) pa_nil)))
    (pss_one (ps_ret (pe_lstRev rfl rfl T.list rfl T.reversed (pe_meth (E := E0) (pv 2) C.c Mh FH (hr.mono (by omega)) bH .nil pass0 (pa_cons (pv 0) pa_nil))))))), ?_⟩
  refine ⟨_, rfl, v, x, rfl, hx, by omega, hz, fun a H1 g1 na ha => ?_⟩
  refine ⟨_, rfl, a, _, rfl, .inl (SqL.of ha), _, _, rfl, rfl, _, rfl, ?_⟩
  cases hl : lets x with
  | cons c r =>
    rw [hl] at ha
    refine ite2 (fun _ => ?_) fun z => absurd (decide_eq_true (show ((((c :: r).map fun c => V.str c.str).length : Nat) : Int) > 0 by simp)) z
    refine ⟨_, rfl, a, _, _, _, rfl, rfl, SqL.of ha, at0, _, rfl, fun d H2 g2 hd => ?_⟩
    exact kE c r hl _ _ _ (g1.trans g2) ⟨rfl, d, rfl, hd⟩
  | nil =>
    rw [hl] at ha
    refine ite2 (fun z => absurd (of_decide_eq_true z) (by simp)) fun _ => ?_
    have k := kQ hl
    have hd := Say.depth_le x
    refine ⟨_, rfl, v, x, rfl, hx.mono g1, by omega, fun H2 g2 => ⟨_, _, rfl, rfl, _, rfl, by omega, by omega, fun D nD => ?_⟩⟩
    have hn : (((x.depth : Nat) : Int) + 1).toNat = x.depth + 1 := by omega
    rw [hn]
    refine lc_onW walk_range (as := rowMs x) (fun _ => true) (fun m y _ => y = .str (S (mt m))) (fun _ _ => trivial) (by simp [rowMs]) (by simp [rowMs]; omega) nD (fun _ _ _ _ _ _ _ h => h) (fun j m v' H3 H3' acc C C' hm hv s1 hD hC _ => ?_) fun ys H3 s1 hD hy => ?_
    · have e : m = noM := by
        have := List.mem_of_getElem? hm
        exact (List.mem_replicate.mp this).2
      subst e
      refine ⟨rfl, q_yes _ _ ?_⟩
      rw [hv.1]
      exact hC rfl _ _ (Same.refl _) (by rw [mt_noM, ← str01.2])
    · rw [filter_true] at hy
      have e := paired_eq (f := fun m : Mark => V.str (S (mt m))) hy
      subst e
      intro y dx ny nd ne
      refine mk_chain C.c C.n (SqL.of hD) (by simp [rowMs]) (by simp [rowMs]; omega) ny nd ne (fun p zs H4 g4 hy hp hR => ⟨rfl, ?_⟩)
      have hrl : (rowMs x).length = x.depth + 1 := by simp [rowMs]
      have gg := g1.trans (g2.trans (s1.trans g4))
      refine ⟨_, rfl, y, dx, _, rfl, hy, rfl, _, rfl, y, _, dx, p, zs, rowMs x, v, x, rfl, hy, C.c, C.n, SqL.of hp, hR, by omega, hx.mono gg, hh, fun p2 H5 g5 np2 hp2 => ?_⟩
      refine ⟨p2, _, rfl, SqL.of hp2, fun q nq => ?_⟩
      rw [← List.map_reverse]
      exact k q _ (gg.trans (g5.trans (same_new nq _))) (gg.free (g5.free nq)) upd_same
end
end SD
namespace SD
open PySem PySem.Spec PyProof.Rows L2 SX
/-! # lines -/
/-- the word that stands for a mark -/
def mw (m : Mark) : List Nat := if mt m = [] then [45] else mt m
theorem ltrs_up (m : Mark) : (ltrsM m).Pairwise fun a b => a.ix < b.ix := by
  unfold ltrsM
  exact List.Pairwise.filter _ (by simp [Ltr.ix])
theorem pqr_ix (c : Ltr) : ∃ rest, Builtin.Str.occurrences "pqr" (S [c.code]) 0 ("pqr" : Str).length 1 = c.ix :: rest := by
  cases c
  · exact ⟨[], by decide +kernel⟩
  · exact ⟨[], by decide +kernel⟩
  · exact ⟨[], by decide +kernel⟩
theorem pqr_in (c : Ltr) : decide (c.code ∈ ("pqr" : Str).cps.toList) = true := by rw [strpqr.1]; cases c <;> decide
inductive Cmd | say (l : List Nat) | put (c : Ltr) (l : List Nat) | judge | alike (l : List Nat) | row | self | kinds | chain (ms : List Mark)
def Cmd.parts : Cmd → List (List Nat)
  | .say l => [[115, 97, 121], l] | .put c l => [[112, 117, 116], [c.code], l] | .judge => [[106, 117, 100, 103, 101]] | .alike l => [[97, 108, 105, 107, 101], l]
  | .row => [[114, 111, 119]] | .self => [[115, 101, 108, 102]] | .kinds => [[107, 105, 110, 100, 115]] | .chain ms => [99, 104, 97, 105, 110] :: ms.map mw
def Cmd.out : Cmd → List (List Nat)
  | .chain ms => [99, 104, 97, 105, 110] :: ms.map mt | c => c.parts
def Cmd.word : Cmd → Str
  | .say _ => "say" | .put _ _ => "put" | .judge => "judge" | .alike _ => "alike" | .row => "row" | .self => "self" | .kinds => "kinds" | .chain _ => "chain"
def Cmd.line (c : Cmd) : List Nat := TL.joinL [32] c.parts
def Cmd.ok : Cmd → Prop
  | .say l => 32 ∉ l | .put _ l => 32 ∉ l | .alike l => 32 ∉ l | .chain ms => ms ≠ [] ∧ ms.length ≤ 100 | _ => True
theorem w_S : S [115, 97, 121] = "say" ∧ S [112, 117, 116] = "put" ∧ S [106, 117, 100, 103, 101] = "judge" ∧ S [97, 108, 105, 107, 101] = "alike" ∧ S [114, 111, 119] = "row" ∧ S [115, 101, 108, 102] = "self" ∧ S [107, 105, 110, 100, 115] = "kinds" ∧ S [99, 104, 97, 105, 110] = "chain" := by decide +kernel
theorem mw_blank (m : Mark) : 32 ∉ mw m := by
  unfold mw
  split
  · decide
  · intro h
    unfold mt at h
    obtain ⟨c, _, e⟩ := List.mem_map.mp h
    cases c <;> simp [Ltr.code] at e
theorem parts_ne (c : Cmd) : c.parts ≠ [] := by cases c <;> simp [Cmd.parts]
theorem parts_blank {c : Cmd} (h : c.ok) : ∀ p ∈ c.parts, 32 ∉ p := by
  intro p hp
  cases c <;> simp only [Cmd.parts, List.mem_cons, List.not_mem_nil, or_false, List.mem_map] at hp
  · rcases hp with rfl | rfl
    · decide
    · exact h
  · rcases hp with rfl | rfl | rfl
    · decide
    · rename_i c l
      cases c <;> simp [Ltr.code]
    · exact h
  · subst hp; decide
  · rcases hp with rfl | rfl
    · decide
    · exact h
  · subst hp; decide
  · subst hp; decide
  · subst hp; decide
  · rcases hp with rfl | ⟨m, _, rfl⟩
    · decide
    · exact mw_blank m
section
variable {P : Program} {w : World} {K : PySem.W.Frag} {mg : Str → Option Value} {base : Heap}
def spMarksOf : Sp := fun vs H Q _ => ∃ m : Mark, vs = [.str (S (mw m))] ∧ ∀ H', Same H H' → Q (.str (S (mt m))) H'
theorem cl_marks_of (D : Df K mg "marks_of" "marks_of" "marks_of" s_marks_of ["word"]) (iL : ∃ t, mg "LETTERS_desk" = some (.str "pqr" t)) : Cl P w K mg base CX0 1 "marks_of" spMarksOf := by
  refine D.ok c_marks_of (fun vs H Q E h => ?_) fun f cdv A outer s H vs Q E hr h => ?_
  · obtain ⟨m, rfl, _⟩ := h
    rfl
  obtain ⟨m, rfl, k⟩ := h
  obtain ⟨tL, mL⟩ := iL
  refine ⟨_, pss_cons (ps_if (pt_cmpR op_eq (pv 0) pe_str (nomark _)) (pss_one (ps_ret pe_str)) pss_nil)
    (pss_cons (ps_set (i := 1) c_marks_of.nd rfl (Or.inl rfl) (pe_un un_neg pe_int))
    (pss_cons (ps_for PassesOwn.never rfl (pi_str (pv 0)) (pg_name (i := 2) c_marks_of.nd rfl (Or.inl rfl))
      (pss_cons (ps_if (PW.pt (pw_or (pt_cmpR op_notIn_sign (pv 2) (pe_glob (v := .str "pqr") rfl mL ⟨tL, rfl⟩) rfl) (pw_or1 (pt_cmpR op_le (pe_m1 PySem.F.slot_str_index PySem.F.type_str_index mt_sindex (pe_glob (v := .str "pqr") rfl mL ⟨tL, rfl⟩) (pv 2)) (pv 1) (nomark _))))) (pss_one ps_never) pss_nil)
      (pss_one (ps_set (i := 1) c_marks_of.nd rfl (Or.inl rfl) (pe_m1 PySem.F.slot_str_index PySem.F.type_str_index mt_sindex (pe_glob (v := .str "pqr") rfl mL ⟨tL, rfl⟩) (pv 2))))))
    (pss_cons (ps_if (pt_cmpR op_eq (pv 0) pe_str (nomark _)) (pss_one ps_never) pss_nil)
    (pss_one (ps_ret (pv 0)))))), ?_⟩
  have e1 : decide (V.str (S (mw m)) = V.str "-") = decide (mt m = []) := by
    rw [show ("-" : Str) = S [45] by decide +kernel]
    refine decide_eq_decide.mpr ⟨fun e => ?_, fun e => by unfold mw; rw [if_pos e]⟩
    injection e with e
    have e := S_inj e
    unfold mw at e
    by_cases h : mt m = []
    · exact h
    · rw [if_neg h] at e
      unfold mt at e
      cases hl : ltrsM m with
      | nil => rw [hl] at e; cases e
      | cons c l => rw [hl] at e; cases c <;> simp [Ltr.code] at e
  refine ⟨_, rfl, rfl, _, rfl, ?_⟩
  rw [e1]
  refine ite2 (fun c => ?_) fun c => ?_
  · have := k H (Same.refl _)
    rw [of_decide_eq_true c] at this
    show Q (.str "") H
    rw [str01.2]; exact this
  have hne : mt m ≠ [] := fun e => c (decide_eq_true e)
  have hw : mw m = mt m := by unfold mw; rw [if_neg hne]
  rw [hw]
  refine ⟨_, rfl, _, rfl, _, rfl, ?_⟩
  have hsz : (S (mt m)).cps.size = (ltrsM m).length := by show (mt m).toArray.size = _; simp [mt]
  have up := ltrs_up m
  refine for_it walk_str (fun i σ H2 => ∃ (lst : Int) (o : Option V), σ = [some (.str (S (mt m))), some (.int lst), o] ∧ H2 = H ∧ ∀ c ∈ (ltrsM m).drop i, lst < (c.ix : Int)) ⟨-1, none, rfl, rfl, fun c _ => by omega⟩ (fun _ _ _ _ _ => trivial) (fun i v σ H2 H3 hi h hy => ?_) fun σ H2 h => ?_
  · obtain ⟨lst, o, rfl, rfl, hlt⟩ := h
    obtain ⟨rfl, d, hd, rfl⟩ := hy
    rw [hsz] at hi
    have hd' : (mt m)[i]? = some d := by rw [← Array.getElem?_toList] at hd; exact hd
    have ec : d = (ltrsM m)[i].code := by
      unfold mt at hd'
      rw [List.getElem?_map, List.getElem?_eq_getElem hi] at hd'
      exact (Option.some.inj hd').symm
    subst ec
    obtain ⟨rest, hoc⟩ := pqr_ix (ltrsM m)[i]
    have hin : (ltrsM m)[i] ∈ (ltrsM m).drop i := by rw [List.drop_eq_getElem_cons hi]; exact List.mem_cons_self
    have hlt1 := hlt _ hin
    refine ⟨_, rfl, (ltrsM m)[i].code, "pqr", rfl, rfl, _, rfl, ?_⟩
    rw [pqr_in]
    refine ite2 (fun z => absurd z (by simp)) fun _ => ?_
    refine ⟨⟨_, rfl⟩, _, rfl, "pqr", _, _, rest, rfl, rfl, hoc, _, rfl, _, _, rfl, rfl, _, rfl, ?_⟩
    refine ite2 (fun z => absurd (of_decide_eq_true z) (by omega)) fun _ => ?_
    refine ⟨⟨_, rfl⟩, _, rfl, "pqr", _, _, rest, rfl, rfl, hoc, _, _, rfl, rfl, fun c hc => ?_⟩
    rw [List.drop_eq_getElem_cons hi] at *
    have := List.pairwise_iff_getElem.mp up
    obtain ⟨j, hj, e⟩ := List.mem_iff_getElem.mp hc
    rw [List.getElem_drop] at e
    have hj2 : i + 1 + j < (ltrsM m).length := by rw [List.length_drop] at hj; omega
    have := this i (i + 1 + j) hi hj2 (by omega)
    rw [← e]
    exact Int.ofNat_lt.mpr this
  · obtain ⟨lst, o, rfl, rfl, _⟩ := h
    refine ⟨_, rfl, rfl, _, rfl, ?_⟩
    rw [show decide (V.str (S (mt m)) = V.str "") = false by rw [str01.2]; exact decide_eq_false fun e => by injection e with e; exact hne (S_inj e)]
    refine ite2 (fun z => absurd z (by simp)) fun _ => ⟨_, rfl, k _ (Same.refl _)⟩
theorem head_word (c : Cmd) : ∃ h r, c.parts = h :: r ∧ S h = c.word := by
  cases c <;> exact ⟨_, _, rfl, by first | exact w_S.1 | exact w_S.2.1 | exact w_S.2.2.1 | exact w_S.2.2.2.1 | exact w_S.2.2.2.2.1 | exact w_S.2.2.2.2.2.1 | exact w_S.2.2.2.2.2.2.1 | exact w_S.2.2.2.2.2.2.2⟩
theorem wc : ("say" : Str) ≠ "chain" ∧ ("put" : Str) ≠ "chain" ∧ ("judge" : Str) ≠ "chain" ∧ ("alike" : Str) ≠ "chain" ∧ ("row" : Str) ≠ "chain" ∧ ("self" : Str) ≠ "chain" ∧ ("kinds" : Str) ≠ "chain" := by decide +kernel
theorem chain_ne (c : Cmd) : decide (c.word = "chain") = true → ∃ ms, c = .chain ms := by
  cases c <;> intro h <;> have h := of_decide_eq_true h <;> first | exact ⟨_, rfl⟩ | exact absurd h wc.1 | exact absurd h wc.2.1 | exact absurd h wc.2.2.1 | exact absurd h wc.2.2.2.1 | exact absurd h wc.2.2.2.2.1 | exact absurd h wc.2.2.2.2.2.1 | exact absurd h wc.2.2.2.2.2.2
/-- how many words a line of this kind has -/
def Cmd.many : Cmd → Nat | .say _ => 2 | .put _ _ => 3 | .judge => 1 | .alike _ => 2 | .row => 1 | .self => 1 | .kinds => 1 | .chain ms => 1 + ms.length
theorem parts_many (c : Cmd) : c.parts.length = c.many := by cases c <;> simp [Cmd.parts, Cmd.many]; omega
def deskTab : List (Str × V) := [("say", .int 2), ("put", .int 3), ("judge", .int 1), ("alike", .int 2), ("row", .int 1), ("self", .int 1), ("kinds", .int 1)]
theorem tab_word (c : Cmd) (h : ∀ ms, c ≠ .chain ms) : (c.word, V.int (c.many : Int)) ∈ deskTab := by
  cases c <;> simp [deskTab, Cmd.word, Cmd.many]
  exact absurd rfl (h _)
theorem put_word (c : Cmd) : c.word = "put" → ∃ d l, c = .put d l := by
  cases c <;> intro h <;> first | exact ⟨_, _, rfl⟩ | (simp only [Cmd.word] at h; exact absurd h (by decide +kernel))
def spLine : Sp := fun vs H Q _ => ∃ c : Cmd, vs = [.str (S c.line)] ∧ c.ok ∧ c.line.length ≤ 50000 ∧ ∀ (p : Addr) (H' : Hp), Same H H' → H p = none → H' p = some (.lst (c.out.map fun l => V.str (S l))) → Q (.ref p) H'
theorem cl_line (D : Df K mg "line_words" "line_words" "line_words" s_line_words ["line"]) (T : Tx mg) (cM : Cl P w K mg base CX0 1 "marks_of" spMarksOf) (TS : TabAt K w mg "WORDS_desk" deskTab) (iL : ∃ t, mg "LETTERS_desk" = some (.str "pqr" t)) : Cl P w K mg base CX0 2 "line_words" spLine := by
  refine D.ok c_line_words (fun vs H Q E h => ?_) fun f cdv A outer s H vs Q E hr h => ?_
  · obtain ⟨c, rfl, _⟩ := h
    rfl
  obtain ⟨c, rfl, hok, hlen, k⟩ := h
  obtain ⟨tL, mL⟩ := iL
  obtain ⟨aS, es, nS, mS, kS, vS⟩ := TS.ex
  refine ⟨_, pss_cons (ps_set (i := 1) c_line_words.nd rfl (Or.inl rfl) (pe_split (pv 0) pe_str))
    (pss_cons (ps_if (pt_cmpR op_eq (pe_ix ix_list (pv 1) pe_int (fun _ _ => rfl)) pe_str (nomark _))
      (pss_cons (ps_if (pt_cmpR op_lt (pe_callB call_len_seq rfl T.len PySem.boot_len (pa_cons (pv 1) pa_nil)) pe_int (nomark _)) (pss_one ps_never) pss_nil)
      (pss_one (ps_ret (pe_op op_cat (pe_lst (pa_cons (pe_ix ix_list (pv 1) pe_int (fun _ _ => rfl)) pa_nil))
        (pe_lc (own := [("word", 2)]) (g := gName 2) rfl c_line_words.nd (pi_list (pe_slice sl_list (pv 1) (po_some pe_int) po_none)) (blkOk_by (own := [("word", 2)]) (N := ["line", "words", "word"]) (sc := defScope s_line_words) (by decide +kernel))
          (fun _ _ _ _ _ => pg_name (i := 2) c_line_words.nd rfl (Or.inl rfl)) (fun _ _ _ _ _ => pts_nil) (fun _ _ _ _ _ => pe_c0 cM hr (by omega) (pa_cons (pv 2) pa_nil))))))) pss_nil)
    (pss_cons (ps_if (PW.pt (pw_or (pt_cmpR (op_notIn_kd kS) (pe_ix ix_list (pv 1) pe_int (fun _ _ => rfl)) (pe_glob (v := .ref aS) rfl mS rfl) rfl) (pw_or1 (pt_cmpR op_ne (pe_callB call_len_seq rfl T.len PySem.boot_len (pa_cons (pv 1) pa_nil)) (pe_ix ix_kdict (pe_glob (v := .ref aS) rfl mS rfl) (pe_ix ix_list (pv 1) pe_int (fun _ _ => rfl)) (fun _ _ => rfl)) rfl)))) (pss_one ps_never) pss_nil)
    (pss_cons (ps_if (PW.pt (pw_and (pt_cmpR op_eq (pe_ix ix_list (pv 1) pe_int (fun _ _ => rfl)) pe_str (nomark _)) (pw_and1 (PW.pt (pw_or (pt_cmpR op_ne (pe_callB call_len_str rfl T.len PySem.boot_len (pa_cons (pe_ix ix_list (pv 1) pe_int (fun _ _ => rfl)) pa_nil)) pe_int (nomark _)) (pw_or1 (pt_cmpR op_notIn_sign (pe_ix ix_list (pv 1) pe_int (fun _ _ => rfl)) (pe_glob (v := .str "pqr") rfl mL ⟨tL, rfl⟩) rfl))))))) (pss_one ps_never) pss_nil)
    (pss_one (ps_ret (pv 1)))))), ?_⟩
  have hsp : Txt.split (S c.line) " " = c.parts.map S := by
    rw [show (" " : Str) = S [32] by decide +kernel, split_S (by decide) (by decide)]
    unfold Cmd.line
    rw [spl_join (parts_ne c) (parts_blank hok)]
  obtain ⟨h0, r0, hp, hw⟩ := head_word c
  refine ⟨_, rfl, ⟨_, rfl⟩, _, _, rfl, rfl, by decide +kernel, szm (n := (S c.line).length + 2) (by rw [S_length]; omega), fun p np => ?_⟩
  rw [hsp, hp]
  have g1 := same_new np (.lst (((h0 :: r0).map S).map V.str))
  have hS : SqL K (upd H p (.lst (((h0 :: r0).map S).map V.str))) p (((h0 :: r0).map S).map V.str) := SqL.of upd_same
  refine ⟨_, rfl, p, _, _, _, rfl, rfl, hS, at0, rfl, _, rfl, ?_⟩
  have ed : ∀ wd : Str, decide (V.str (S h0) = V.str wd) = decide (c.word = wd) := fun wd => by
    rw [hw]; exact decide_eq_decide.mpr ⟨fun e => by injection e, fun e => by rw [e]⟩
  rw [ed]
  refine ite2 (fun hc => ?_) fun hc => ?_
  · obtain ⟨ms, rfl⟩ := chain_ne c hc
    obtain ⟨hne, hml⟩ := hok
    have hpos := List.length_pos_iff.mpr hne
    injection hp with e0 e1
    subst e1
    have hl2 : (((h0 :: ms.map mw).map S).map V.str).length = ms.length + 1 := by simp
    refine ⟨_, rfl, p, _, rfl, .inl hS, _, _, rfl, rfl, _, rfl, ite2 (fun z => absurd (of_decide_eq_true z) (by rw [hl2]; omega)) fun _ => ?_⟩
    refine ⟨_, rfl, p, _, _, _, rfl, rfl, hS, at0, sz (n := 1) (by decide), fun l nl => ?_⟩
    have g2 := same_new nl (.lst [.str (S h0)])
    refine ⟨_, rfl, _, rfl, p, _, rfl, g2.seq hS, fun q nq => ?_⟩
    have ecut : cutV (((h0 :: ms.map mw).map S).map V.str) (some 1) none = ms.map fun m => V.str (S (mw m)) := by
      rw [List.map_cons, List.map_cons, cut_rest, List.map_map, List.map_map]; rfl
    rw [ecut]
    have g3 := same_new nq (.lst (ms.map fun m => V.str (S (mw m))))
    refine ⟨q, rfl, ⟨_, SqL.of upd_same⟩, fun D nD => ?_⟩
    refine lc_on (as := ms) (fun _ => true) (fun m y _ => y = .str (S (mt m))) (SqL.of upd_same) (by rw [List.length_map]) (by omega) nD (fun _ _ _ _ _ _ _ h => h) (fun j m v H2 acc C C' hm hv s1 hD hC _ => ?_) fun ys H2 s1 hD hy => ?_
    · have e := map_at (f := fun m : Mark => V.str (S (mw m))) hm hv
      subst e
      exact ⟨rfl, q_yes _ _ ⟨_, rfl, m, rfl, fun H3 g3 => hC rfl _ _ g3 rfl⟩⟩
    · rw [filter_true] at hy
      have e := paired_eq (f := fun m : Mark => V.str (S (mt m))) hy
      subst e
      refine ⟨l, D, _, _, rfl, rfl, s1 _ _ (g3 _ _ upd_same), hD, szm (by simp; omega), fun m nm => ?_⟩
      refine k m _ (g1.trans (g2.trans (g3.trans (s1.trans (same_new nm _))))) (g1.free (g2.free (g3.free (s1.free nm)))) ?_
      rw [upd_same, ← e0]
      show some (HO.lst ([V.str (S _)] ++ _)) = some (HO.lst (List.map _ (_ :: ms.map mt)))
      rw [List.map_cons, List.map_map]; rfl
  · have hnc : ∀ ms, c ≠ .chain ms := fun ms e => by subst e; exact hc (decide_eq_true rfl)
    have hout : c.out = c.parts := by cases c <;> first | rfl | exact absurd rfl (hnc _)
    have tw := vS _ (tab_word c hnc)
    obtain ⟨es2, n2, u2, hl2, hk2, en2, ru2⟩ := id tw
    have hlen2 : (((h0 :: r0).map S).map V.str).length = c.many := by rw [List.length_map, List.length_map, ← hp, parts_many]
    refine ⟨_, rfl, p, _, _, _, rfl, rfl, hS, at0, c.word, some u2, by rw [hw], rfl, en2, _, rfl, ?_⟩
    refine ite2 (fun z => absurd z (by simp)) fun _ => ?_
    refine ⟨_, rfl, p, _, rfl, .inl hS, _, rfl, p, _, _, _, rfl, rfl, hS, at0, aS, c.word, _, rfl, by rw [hw], tw, rfl, _, rfl, ?_⟩
    rw [hlen2, decide_eq_true rfl]
    refine ite2 (fun z => absurd z (by simp)) fun _ => ?_
    have fin : Q (.ref p) (upd H p (.lst (((h0 :: r0).map S).map V.str))) := by
      refine k p _ g1 np ?_
      rw [upd_same, hout, hp, List.map_map]; rfl
    refine ⟨_, rfl, p, _, _, _, rfl, rfl, hS, at0, rfl, _, rfl, ?_⟩
    rw [ed]
    refine ite2 (fun hcp => ?_) fun _ => ?_
    · obtain ⟨d, l, rfl⟩ := put_word c (of_decide_eq_true hcp)
      injection hp with e0 e1
      subst e1
      have h1 : atI (((h0 :: [[d.code], l]).map S).map V.str) 1 = some (.str (S [d.code])) := at1
      refine ⟨_, rfl, p, _, _, _, rfl, rfl, hS, h1, _, rfl, sz (n := (S [d.code]).length) (by rw [S_length]; simp), rfl, _, rfl, ?_⟩
      rw [show decide (V.int ((S [d.code]).length : Int) = V.int 1) = true by rw [S_length]; exact decide_eq_true rfl]
      refine ite2 (fun z => absurd z (by simp)) fun _ => ?_
      refine ⟨_, rfl, p, _, _, _, rfl, rfl, hS, h1, d.code, "pqr", rfl, rfl, _, rfl, ?_⟩
      rw [pqr_in]
      exact ite2 (fun z => absurd z (by simp)) fun _ => ⟨_, rfl, fin⟩
    · first
      | exact ⟨_, rfl, fin⟩
      | exact ite2 (fun z => absurd z Bool.false_ne_true) fun _ => ⟨_, rfl, fin⟩
end
end SD
namespace SD
open PySem PySem.Spec PyProof.Rows L2 SX
theorem num_short : ∀ n : Nat, n < 201 → (Str.ofString (toString ((n : Nat) : Int))).length ≤ 10 ∧ ((n : Int)).natAbs.log2 < 1920 := by decide +kernel
/-- what is said of a saying -/
def sizeText (s : Say) : Str := "size " ++ Str.ofString (toString ((s.size : Nat) : Int)) ++ " depth " ++ Str.ofString (toString ((s.depth : Nat) : Int))
section
variable {P : Program} {w : World} {K : PySem.W.Frag} {mg : Str → Option Value} {base : Heap}
/-! # the desk -/
theorem SayAt.extN {H H' : Hp} (g : LamX.ExtN H H') : ∀ {s : Say} {v : V}, SayAt H s v → SayAt H' s v := by
  have t : ∀ {a : Addr} {ys : List V}, H a = some (.tup ys) → H' a = some (.tup ys) := fun {a ys} h => g _ _ h fun ps z => by cases z
  intro s
  induction s with
  | no => rintro v ⟨a, e, h⟩; exact ⟨a, e, t h⟩
  | letter c => rintro v ⟨a, e, h⟩; exact ⟨a, e, t h⟩
  | neg x ih => rintro v ⟨a, w, e, h, h1⟩; exact ⟨a, w, e, t h, ih h1⟩
  | shown x ih => rintro v ⟨a, w, e, h, h1⟩; exact ⟨a, w, e, t h, ih h1⟩
  | bin o x y ih1 ih2 => rintro v ⟨a, w, u, e, h, h1, h2⟩; exact ⟨a, w, u, e, t h, ih1 h1, ih2 h2⟩
def spKinds (pT : Addr) (qT : Str) : Sp := fun vs H Q E => ∃ (v : V) (s : Say), vs = [v] ∧ SayAt H s v ∧ s.ht ≤ 120 ∧ s.size ≤ 20000 ∧ LamX.TabS H pT qT ∧ (many s < 4 ∨ 5 < many s) ∧ (5 < many s → Rz K H E .many) ∧
  (many s < 4 → ∀ (a : Addr) (ys : List V) (H' : Hp), LamX.ExtN H H' → LamX.TabS H' pT qT → H' a = some (.lst ys) → ys.length ≤ 200 → (∀ y ∈ ys, ∃ (q : Addr) (bs : List Bool), y = .ref q ∧ SqT K H' q (bs.map V.bl) ∧ bs.length = (lets s).length + many s) → Q (.ref a) H')
def spTried (pT : Addr) (qT : Str) : Sp := fun vs H Q E => ∃ (v : V) (s : Say), vs = [v] ∧ SayAt H s v ∧ s.ht ≤ 120 ∧ s.size ≤ 20000 ∧ LamX.TabS H pT qT ∧ (many s < 4 ∨ 5 < many s) ∧ (5 < many s → Rz K H E .many) ∧ (many s < 4 → ∀ (b : Bool) (H' : Hp), LamX.ExtN H H' → LamX.TabS H' pT qT → Q (.bl b) H')
/-- the desk at x keeps v -/
def DeskAt (K : PySem.W.Frag) (H : Hp) (x dx : Addr) (v : V) : Prop := H x = some (.ins (He.ga K "Desk") dx [("kept", v)])
structure DeskC (K : PySem.W.Frag) : Prop where
  c : Cls K (He.ga K "Desk")
  n : NoAttr K (He.ga K "Desk") "kept"
/-- behind a call that changed the desk at most: the desk keeps z -/
def spChanged : Sp := fun vs H Q E => ∃ (x dx : Addr) (v u : V) (s t : Say) (c : Ltr), vs = [.ref x, .str c.str, u] ∧ DeskAt K H x dx v ∧ SayAt H s v ∧ SayAt H t u ∧ s.ht < 130 ∧ (s.put c t).ht < 130 ∧ (s.put c t).size ≤ 20000 ∧
  (120 < (s.put c t).size → Rz K H E .many) ∧
  ((s.put c t).size ≤ 120 → ∀ (z : V) (H1 H2 : Hp), Same H H1 → SayAt H1 (s.put c t) z → Same (upd H1 x (.ins (He.ga K "Desk") dx [("kept", z)])) H2 → Q (.str (S (s.put c t).text)) H2)
theorem ins_tup {C dx a x : Addr} {fs : List (Str × V)} {H : Hp} {xs : List V} (hx : H x = some (.ins C dx fs)) (ha : H a = some (.tup xs)) : a ≠ x := by
  rintro rfl
  rw [hx] at ha
  cases ha
theorem SayAt.put_desk {C dx x : Addr} {fs fs' : List (Str × V)} {H : Hp} (hx : H x = some (.ins C dx fs)) : ∀ {s : Say} {v : V}, SayAt H s v → SayAt (upd H x (.ins C dx fs')) s v := by
  have t : ∀ {a : Addr} {ys : List V}, H a = some (.tup ys) → (upd H x (.ins C dx fs')) a = some (.tup ys) := fun {a ys} h => by rw [upd_ne (ins_tup hx h)]; exact h
  intro s
  induction s with
  | no => rintro v ⟨a, e, h⟩; exact ⟨a, e, t h⟩
  | letter c => rintro v ⟨a, e, h⟩; exact ⟨a, e, t h⟩
  | neg x ih => rintro v ⟨a, w, e, h, h1⟩; exact ⟨a, w, e, t h, ih h1⟩
  | shown x ih => rintro v ⟨a, w, e, h, h1⟩; exact ⟨a, w, e, t h, ih h1⟩
  | bin o x y ih1 ih2 => rintro v ⟨a, w, u, e, h, h1, h2⟩; exact ⟨a, w, u, e, t h, ih1 h1, ih2 h2⟩
theorem ca_changed {f : Addr} (D : Da K "changed" "Desk.changed" s_Desk_changed ["self", "letter", "saying"] f) (C : DeskC K) (cP : Cl P w K mg base CX0 131 "put" (spPut 130)) (cZ : Cl P w K mg base CX0 131 "size_of" (spSize 130)) (cW : Cl P w K mg base CX0 131 "written" (spText 130))
    (i1 : ∃ t, mg "MOST_PARTS_desk" = some (.int 120 t)) (X : Xc K mg "TooMany") : Ca P w K mg base (L2.CX P w) 132 f (spChanged (K := K)) := by
  refine D.okX c_Desk_changed (fun vs H Q E h => ?_) fun cdv A outer s H vs Q E hr h => ?_
  · obtain ⟨x, dx, v, u, s, t, c, rfl, _⟩ := h
    rfl
  obtain ⟨x, dx, v, u, a, b, c, rfl, hx, ha, hb, hh, hh2, hz, kE, kQ⟩ := h
  obtain ⟨t1, m1⟩ := i1
  refine ⟨_, pss_cons (ps_set (i := 3) c_Desk_changed.nd rfl (Or.inl rfl) (pe_c0 cP hr (by omega) (pa_cons (pe_fld (pv 0) rfl) (pa_cons (pe_disp (pps_cons (pv 1) (pv 2) pps_nil) rfl rfl (by simp) (by simp)) pa_nil))))
    (pss_cons (ps_if (pt_cmpR op_gt (pe_c0 cZ hr (by omega) (pa_cons (pv 3) pa_nil)) (pe_glob (v := .int 120) rfl m1 ⟨t1, rfl⟩) (nomark _)) (pss_one (ps_raise rfl (takes_of rfl rfl rfl rfl) (pmk0 X))) pss_nil)
    (pss_cons (ps_fld (pv 0) (pv 3) rfl)
    (pss_one (ps_ret (pe_c0 cW hr (by omega) (pa_cons (pv 3) pa_nil)))))), ?_⟩
  refine ⟨_, rfl, x, _, dx, _, v, rfl, hx, C.c, C.n, rfl, fun p np => ?_⟩
  refine ⟨_, rfl, _, rfl, upd_same, [(Sum.inr c.str, u)], rfl, by simp, ?_⟩
  have g0 : Same H (upd (upd H p (.dK [])) p (.dK (mergeK [] [((Sum.inr c.str : Key), u)]))) := fun b o q => by
    have := ne_of_none q np
    rw [upd_ne this, upd_ne this]; exact q
  refine ⟨v, u, p, a, b, c, rfl, ha.mono g0, upd_same, hb.mono g0, hh, fun z H1 g1 hz1 => ?_⟩
  have g01 := g0.trans g1
  refine ⟨_, rfl, z, _, rfl, hz1, hh2, by omega, fun H2 g2 => ⟨_, _, rfl, rfl, _, rfl, ?_⟩⟩
  by_cases hb120 : 120 < (a.put c b).size
  · refine ite2 (fun _ => ?_) fun z => absurd (decide_eq_true (show (((a.put c b).size : Nat) : Int) > 120 by omega)) z
    exact kE hb120 _ _ _ (g01.trans g2) ⟨rfl, rfl⟩
  · refine ite2 (fun z => absurd (of_decide_eq_true z) (by omega)) fun _ => ?_
    have hx2 : H2 x = _ := g2 _ _ (g01 _ _ hx)
    refine ⟨_, rfl, _, rfl, x, _, dx, _, rfl, hx2, C.c, C.n, by simp, ?_⟩
    refine ⟨_, rfl, z, _, rfl, (hz1.mono g2).put_desk hx2, hh2, hz, fun H3 g3 => ?_⟩
    exact kQ (by omega) z H2 H3 (g01.trans g2) (hz1.mono g2) g3
/-- the last lines: only where they are refused -/
def spJl : Sp := fun vs H _ E => ∃ (x dx p : Addr) (v : V) (s : Say) (c : Cmd) (b : Bad), vs = [.ref x, .ref p] ∧ DeskAt K H x dx v ∧ SayAt H s v ∧ s.ht ≤ 150 ∧ s.size ≤ 20000 ∧ SqL K H p (c.out.map fun l => V.str (S l)) ∧
  ((c = .judge ∧ Crowd [s] ∧ b = .many) ∨ ∃ l, c = .alike l ∧ l.length ≤ 10000 ∧ ((∃ e, readAll 130 l = some (.inr e) ∧ b = .saying e) ∨ ∃ t, readAll 130 l = some (.inl t) ∧ t.ht ≤ 150 ∧ t.size ≤ 20000 ∧ Crowd [s, t] ∧ b = .many)) ∧ Rz K H E b
theorem ca_jl {f : Addr} (D : Da K "judged_line" "Desk.judged_line" s_Desk_judged_line ["self", "words"] f) (C : DeskC K) (cJ : Cl P w K mg base (L2.CX P w) 157 "judged" (spJudged (K := K))) (cA : Cl P w K mg base (L2.CX P w) 157 "alike" (spAlike (K := K))) (cR : Cl P w K mg base (L2.CX P w) 134 "read" (spReadAll (K := K) 130)) :
    Ca P w K mg base (L2.CX P w) 158 f (spJl (K := K)) := by
  refine D.okX c_Desk_judged_line (fun vs H Q E h => ?_) fun cdv A outer s H vs Q E hr h => ?_
  · obtain ⟨x, dx, p, v, s, c, b, rfl, _⟩ := h
    rfl
  obtain ⟨x, dx, p, v, a, c, b, rfl, hx, ha, hh, hz, hS, hc, k⟩ := h
  have ps : Passes (L2.CX P w) (cxOf (L2.CX P w) P w K mg base ["self", "words", "found", "end", "paper"] "Desk.judged_line" (defScope s_Desk_judged_line) f cdv A outer s H E) E := passes_call (takes_of rfl rfl rfl rfl) fun _ _ _ _ h => h
  refine ⟨_, pss_cons (ps_if (pt_cmpR op_eq (pe_ix ix_list (pv 1) pe_int (fun _ _ => rfl)) pe_str (nomark _))
      (pss_cons (ps_asg (pe_cl (E := E) cJ hr (by omega) ps (pa_cons (pe_fld (pv 0) rfl) pa_nil)) (pg_tup rfl (pgs_cons (pg_name (i := 3) c_Desk_judged_line.nd rfl (Or.inl rfl)) (pgs_cons (pg_name (i := 4) c_Desk_judged_line.nd rfl (Or.inl rfl)) pgs_nil)))) pss_never) pss_nil)
    (pss_cons (ps_set (i := 2) c_Desk_judged_line.nd rfl (Or.inl rfl) (pe_cl (E := E) cA hr (by omega) ps (pa_cons (pe_fld (pv 0) rfl) (pa_cons (pe_cl (E := E) cR hr (by omega) ps (pa_cons (pe_ix ix_list (pv 1) pe_int (fun _ _ => rfl)) pa_nil)) pa_nil)))) pss_never), ?_⟩
  rcases hc with ⟨rfl, hcr, rfl⟩ | ⟨l, rfl, hl, hc⟩
  · refine ⟨_, rfl, p, _, _, _, rfl, rfl, hS, at0, rfl, _, rfl, ?_⟩
    refine ite2 (fun _ => ?_) fun z => absurd (show decide (V.str (S [106, 117, 100, 103, 101]) = V.str "judge") = true by decide +kernel) z
    exact ⟨_, rfl, x, _, dx, _, v, rfl, hx, C.c, C.n, rfl, v, a, rfl, ha, hh, hz, hcr, k⟩
  · refine ⟨_, rfl, p, _, _, _, rfl, rfl, hS, at0, rfl, _, rfl, ?_⟩
    refine ite2 (fun z => absurd z (show ¬ decide (V.str (S [97, 108, 105, 107, 101]) = V.str "judge") = true by decide +kernel)) fun _ => ?_
    refine ⟨_, rfl, x, _, dx, _, v, rfl, hx, C.c, C.n, rfl, _, rfl, p, _, _, _, rfl, rfl, hS, at1, l, rfl, hl, ?_⟩
    rcases hc with ⟨e, hr1, rfl⟩ | ⟨t, hr1, ht1, ht2, hcr, rfl⟩
    · exact ⟨fun z => (by rw [hr1] at z; cases z), fun s hs => (by rw [hr1] at hs; cases hs), fun e' he => by rw [hr1] at he; injection he with he; injection he with he; subst he; exact k⟩
    · refine ⟨fun z => (by rw [hr1] at z; cases z), fun s hs u H1 g1 hu => ?_, fun e he => by rw [hr1] at he; cases he⟩
      rw [hr1] at hs
      injection hs with hs
      injection hs with hs
      subst hs
      exact ⟨v, u, a, t, rfl, ha.mono g1, hu, ⟨hh, hz⟩, ⟨ht1, ht2⟩, hcr, k.mono g1⟩
end
end SD
namespace SD
open PySem PySem.Spec PyProof.Rows L2 SX
inductive Res | txt (l : Str) (k : Option Say) | bad (b : Bad) | any
def KeptAt (H : Hp) : Option Say → V → Prop | none, v => v = .non | some s, v => SayAt H s v
/-- what a line does to a desk that keeps k -/
inductive Does : Option Say → Cmd → Res → Prop
  | say_ok (k : Option Say) (l : List Nat) (s : Say) : l.length ≤ 10000 → readAll 130 l = some (.inl s) → s.size ≤ 120 → Does k (.say l) (.txt (sizeText s) (some s))
  | say_bad (k : Option Say) (l : List Nat) (e : Nat) : l.length ≤ 10000 → readAll 130 l = some (.inr e) → Does k (.say l) (.bad (.saying e))
  | nothing (c : Cmd) : (∀ l, c ≠ .say l) → Does none c (.bad .nothing)
  | put_bad (s : Say) (c : Ltr) (l : List Nat) (e : Nat) : l.length ≤ 10000 → readAll 130 l = some (.inr e) → Does (some s) (.put c l) (.bad (.saying e))
  | put_ok (s : Say) (c : Ltr) (l : List Nat) (t : Say) : l.length ≤ 10000 → readAll 130 l = some (.inl t) → (s.put c t).size ≤ 120 → Does (some s) (.put c l) (.txt (S (s.put c t).text) (some (s.put c t)))
  | put_many (s : Say) (c : Ltr) (l : List Nat) (t : Say) : l.length ≤ 10000 → readAll 130 l = some (.inl t) → (s.put c t).ht < 130 → (s.put c t).size ≤ 20000 → 120 < (s.put c t).size → Does (some s) (.put c l) (.bad .many)
  | chain (s : Say) (ms : List Mark) : Does (some s) (.chain ms) (.txt (S ((worthS ms s).map sgn)) (some s))
  | row_letter (s : Say) (c : Ltr) (r : List Ltr) : lets s = c :: r → Does (some s) .row (.bad (.letter c))
  | row_ok (s : Say) : lets s = [] → Does (some s) .row (.txt (S ((worthS (rowMs s) s).reverse.map sgn)) (some s))
  | self_out (s : Say) : s.outside = true → Does (some s) .self (.bad .outside)
  | self_many (s : Say) : s.outside = false → 10 < s.size → Does (some s) .self (.bad .many)
  | kinds_many (s : Say) : 5 < many s → Does (some s) .kinds (.bad .many)
  | kinds_any (s : Say) : many s < 4 → Does (some s) .kinds .any
  | judge (s : Say) : Crowd [s] → Does (some s) .judge (.bad .many)
  | alike_bad (s : Say) (l : List Nat) (e : Nat) : l.length ≤ 10000 → readAll 130 l = some (.inr e) → Does (some s) (.alike l) (.bad (.saying e))
  | alike_many (s : Say) (l : List Nat) (t : Say) : l.length ≤ 10000 → readAll 130 l = some (.inl t) → t.ht ≤ 150 → t.size ≤ 20000 → Crowd [s, t] → Does (some s) (.alike l) (.bad .many)
theorem out_head : ∀ c : Cmd, ∃ r, c.out.map (fun l => V.str (S l)) = .str c.word :: r
  | .say l => ⟨_, congrArg (fun z => V.str z :: _) w_S.1⟩
  | .put c l => ⟨_, congrArg (fun z => V.str z :: _) w_S.2.1⟩
  | .judge  => ⟨_, congrArg (fun z => V.str z :: _) w_S.2.2.1⟩
  | .alike l => ⟨_, congrArg (fun z => V.str z :: _) w_S.2.2.2.1⟩
  | .row  => ⟨_, congrArg (fun z => V.str z :: _) w_S.2.2.2.2.1⟩
  | .self  => ⟨_, congrArg (fun z => V.str z :: _) w_S.2.2.2.2.2.1⟩
  | .kinds  => ⟨_, congrArg (fun z => V.str z :: _) w_S.2.2.2.2.2.2.1⟩
  | .chain ms => ⟨_, congrArg (fun z => V.str z :: _) w_S.2.2.2.2.2.2.2⟩
section
variable {P : Program} {w : World} {K : PySem.W.Frag} {mg : Str → Option Value} {base : Heap}
theorem q_w0 {σ : L2.St} {H : Hp} {i : Nat} {p : Addr} {xs : List V} {w0 wd : Str} {Q : Bool → Hp → Prop} (hσ : σ[i]? = some (some (.ref p))) (hS : SqL K H p (.str w0 :: xs)) (q : Q (decide (w0 = wd)) H) : tTest (tOp rEq (tOp (rIxL K) (tVar i) (tC (.int 0))) (tC (.str wd))) σ H Q := by
  refine ⟨_, hσ, p, _, _, _, rfl, rfl, hS, at0, rfl, _, rfl, ?_⟩
  rw [show decide (V.str w0 = V.str wd) = decide (w0 = wd) from decide_eq_decide.mpr ⟨fun e => by injection e, fun e => by rw [e]⟩]
  exact q
def spSay (pT : Addr) (qT : Str) : Sp := fun vs H Q E => ∃ (x dx : Addr) (v : V) (k : Option Say) (c : Cmd) (r : Res), vs = [.ref x, .str (S c.line)] ∧ DeskAt K H x dx v ∧ KeptAt H k v ∧ (∀ s, k = some s → s.size ≤ 120) ∧ c.ok ∧ c.line.length ≤ 50000 ∧ LamX.TabS H pT qT ∧ Does k c r ∧
  match r with
  | .txt out k' => ∀ (v' : V) (H' : Hp), Exc x H H' → DeskAt K H' x dx v' → KeptAt H' k' v' → Q (.str out) H'
  | .bad b => Rz K H E b
  | .any => ∀ (z : Str) (H' : Hp), LamX.ExtN H H' → LamX.TabS H' pT qT → Q (.str z) H'
theorem ca_say {pT : Addr} {qT : Str} {f fC fJ : Addr} (D : Da K "say" "Desk.say" s_Desk_say ["self", "line"] f) (C : DeskC K) (T : Tx mg) (cL : Cl P w K mg base CX0 2 "line_words" spLine) (cR : Cl P w K mg base (L2.CX P w) 134 "read" (spReadAll (K := K) 130)) (cZ : Cl P w K mg base CX0 131 "size_of" (spSize 130)) (cD : Cl P w K mg base CX0 131 "depth_of" (spDepth 130))
    (X0 : Xc K mg "Nothing") (mC : Meth K (He.ga K "Desk") "changed" fC) (cC : Ca P w K mg base (L2.CX P w) 132 fC (spChanged (K := K))) (mJ : Meth K (He.ga K "Desk") "judged_line" fJ) (cJ : Ca P w K mg base (L2.CX P w) 158 fJ (spJl (K := K)))
    (Ch : ChainC P w K mg base) (cS : Cl P w K mg base CX0 1 "signs_of" (spSigns (K := K))) (cRow : Cl P w K mg base (L2.CX P w) 155 "row_of" (spRow (K := K))) (cA : Cl P w K mg base (L2.CX P w) 127 "answer" (spAnswer (K := K))) (cW : Cl P w K mg base CX0 131 "written" (spText 130))
    (cT : Cl P w K mg base (L2.CX P w) 200 "tried" (spTried (K := K) pT qT)) (cK : Cl P w K mg base (L2.CX P w) 190 "kinds_of" (spKinds (K := K) pT qT)) : Ca P w K mg base (L2.CX P w) 201 f (spSay (K := K) pT qT) := by
  obtain ⟨fI, M, cI⟩ := Ch.ini
  obtain ⟨fdI, psI, FI, bI⟩ := cI.ex
  obtain ⟨fh, Mh, cH⟩ := Ch.hol
  obtain ⟨fdh, psh, FH, bH⟩ := cH.ex
  obtain ⟨fdC, psC, FC, bC⟩ := cC.ex
  obtain ⟨fdJ, psJ, FJ, bJ⟩ := cJ.ex
  refine D.okX c_Desk_say (fun vs H Q E h => ?_) fun cdv A outer s H vs Q E hr h => ?_
  · obtain ⟨x, dx, v, k, c, r, rfl, _⟩ := h
    rfl
  obtain ⟨x, dx, v, k, c, r, rfl, hx, hk, hk120, hok, hlen, hT, hdo, q⟩ := h
  have ps : Passes (L2.CX P w) (cxOf (L2.CX P w) P w K mg base ["self", "line", "words", "told"] "Desk.say" (defScope s_Desk_say) f cdv A outer s H E) E := passes_call (takes_of rfl rfl rfl rfl) fun _ _ _ _ h => h
  refine ⟨_, pss_cons (ps_set (i := 2) c_Desk_say.nd rfl (Or.inl rfl) (pe_c0 cL hr (by omega) (pa_cons (pv 1) pa_nil)))
    (pss_cons (ps_if (pt_cmpR op_eq (pe_ix ix_list (pv 2) pe_int (fun _ _ => rfl)) pe_str (nomark _))
      (pss_cons (ps_fld (pv 0) (pe_cl (E := E) cR hr (by omega) ps (pa_cons (pe_ix ix_list (pv 2) pe_int (fun _ _ => rfl)) pa_nil)) rfl)
      (pss_one (ps_ret (pe_op op_add_str (pe_op op_add_str (pe_op op_add_str pe_str (pe_callTy call_str_int rfl T.str (by decide +kernel) (pa_cons (pe_c0 cZ hr (by omega) (pa_cons (pe_fld (pv 0) rfl) pa_nil)) pa_nil))) pe_str) (pe_callTy call_str_int rfl T.str (by decide +kernel) (pa_cons (pe_c0 cD hr (by omega) (pa_cons (pe_fld (pv 0) rfl) pa_nil)) pa_nil)))))) pss_nil)
    (pss_cons (ps_if (pt_cmpR op_isN (pe_fld (pv 0) rfl) pe_non rfl) (pss_one (ps_raise rfl (takes_of rfl rfl rfl rfl) (pmk0 X0))) pss_nil)
    (pss_cons (ps_if (pt_cmpR op_eq (pe_ix ix_list (pv 2) pe_int (fun _ _ => rfl)) pe_str (nomark _)) (pss_one (ps_ret (pe_meth (E := E) (pv 0) C.c mC FC (hr.mono (by omega)) bC .nil ps (pa_cons (pe_ix ix_list (pv 2) pe_int (fun _ _ => rfl)) (pa_cons (pe_cl (E := E) cR hr (by omega) ps (pa_cons (pe_ix ix_list (pv 2) pe_int (fun _ _ => rfl)) pa_nil)) pa_nil))))) pss_nil)
    (pss_cons (ps_if (pt_cmpR op_eq (pe_ix ix_list (pv 2) pe_int (fun _ _ => rfl)) pe_str (nomark _)) (pss_one (ps_ret (pe_c0 cS hr (by omega) (pa_cons (pe_meth (E := E0) (pe_make (E := E0) M FI (hr.mono (by omega)) rfl Ch.at_ bI .nil pass0 (pa_cons (pe_slice sl_list (pv 2) (po_some pe_int) po_none) pa_nil)) Ch.c Mh FH (hr.mono (by omega)) bH .nil pass0 (pa_cons (pe_fld (pv 0) rfl) pa_nil)) pa_nil)))) pss_nil)
    (pss_cons (ps_if (pt_cmpR op_eq (pe_ix ix_list (pv 2) pe_int (fun _ _ => rfl)) pe_str (nomark _)) (pss_one (ps_ret (pe_c0 cS hr (by omega) (pa_cons (pe_cl (E := E) cRow hr (by omega) ps (pa_cons (pe_fld (pv 0) rfl) pa_nil)) pa_nil)))) pss_nil)
    (pss_cons (ps_if (pt_cmpR op_eq (pe_ix ix_list (pv 2) pe_int (fun _ _ => rfl)) pe_str (nomark _)) (pss_one (ps_ret (pe_c0 cW hr (by omega) (pa_cons (pe_cl (E := E) cA hr (by omega) ps (pa_cons (pe_fld (pv 0) rfl) pa_nil)) pa_nil)))) pss_nil)
    (pss_cons (ps_if (pt_cmpR op_eq (pe_ix ix_list (pv 2) pe_int (fun _ _ => rfl)) pe_str (nomark _))
      (pss_cons (ps_set (i := 3) c_Desk_say.nd rfl (Or.inl rfl) pe_str)
      (pss_cons (ps_if (pt_val (pe_cl (E := E) cT hr (by omega) ps (pa_cons (pe_fld (pv 0) rfl) pa_nil))) (pss_one (ps_set (i := 3) c_Desk_say.nd rfl (Or.inl rfl) pe_str)) pss_nil)
      (pss_one (ps_ret (pe_op op_add_str (pe_op op_add_str (pe_callTy call_str_int rfl T.str (by decide +kernel) (pa_cons (pe_callB call_len_seq rfl T.len PySem.boot_len (pa_cons (pe_cl (E := E) cK hr (by omega) ps (pa_cons (pe_fld (pv 0) rfl) pa_nil)) pa_nil)) pa_nil)) pe_str) (pv 3)))))) pss_nil)
    (pss_one (ps_ret (pe_meth (E := E) (pv 0) C.c mJ FJ (hr.mono (by omega)) bJ .nil ps (pa_cons (pv 2) pa_nil))))))))))), ?_⟩
  refine ⟨_, rfl, c, rfl, hok, hlen, fun p H0 g0 np hp => ?_⟩
  obtain ⟨r0, hr0⟩ := out_head c
  have hS0 : SqL K H0 p (c.out.map fun l => V.str (S l)) := SqL.of hp
  have hS : SqL K H0 p (.str c.word :: r0) := by rw [← hr0]; exact hS0
  have hx0 : DeskAt K H0 x dx v := g0 _ _ hx
  have hT0 : LamX.TabS H0 pT qT := hT.ext g0
  have kept : ∀ {a : Say}, k = some a → SayAt H a v ∧ a.size ≤ 120 ∧ a.ht < 120 ∧ v ≠ .non := fun {a} e => by
    subst e
    have h1 : SayAt H a v := hk
    have h2 := hk120 a rfl
    have h3 := Say.ht_lt a
    obtain ⟨b, rr, e, _⟩ := h1.tup
    exact ⟨h1, h2, by omega, by rw [e]; intro z; cases z⟩
  cases hdo with
  | say_ok _ l a hl hrd hz =>
    refine q_w0 rfl hS (ite2 (fun _ => ?_) fun z => absurd (show decide (("say" : Str) = "say") = true by decide +kernel) z)
    refine ⟨_, rfl, p, _, _, _, rfl, rfl, hS0, at1, l, rfl, hl, (fun z => (by rw [hrd] at z; cases z)), fun a' ha' u H1 g1 hu => ?_, fun e he => by rw [hrd] at he; cases he⟩
    rw [hrd] at ha'
    injection ha' with ha'
    injection ha' with ha'
    subst ha'
    have hx1 := g1 _ _ hx0
    refine ⟨_, rfl, x, _, dx, _, rfl, hx1, C.c, C.n, by simp, ?_⟩
    have hu2 := hu.put_desk (fs' := [("kept", u)]) hx1
    have hx2 : DeskAt K (upd H1 x (.ins (He.ga K "Desk") dx [("kept", u)])) x dx u := upd_same
    have hht := Say.ht_lt a
    have hdl := Say.depth_le a
    obtain ⟨n1, n2⟩ := num_short a.size (by omega)
    obtain ⟨n3, n4⟩ := num_short a.depth (by omega)
    have l1 : ("size " : Str).length = 5 := by decide +kernel
    have l2 : (" depth " : Str).length = 7 := by decide +kernel
    have la : ∀ a b : Str, (a ++ b).length = a.length + b.length := fun a b => by rw [← S_tl a, ← S_tl b, S_cat, S_length, S_length, S_length, List.length_append]
    refine ⟨_, rfl, x, _, dx, _, u, rfl, hx2, C.c, C.n, rfl, u, a, rfl, hu2, by omega, by omega, fun H3 g3 => ⟨_, rfl, n2, _, _, rfl, rfl, sz (n := ("size " : Str).length + _) (by rw [l1]; omega), _, _, rfl, rfl, sz (n := ("size " ++ Str.ofString (toString ((a.size : Nat) : Int)) : Str).length + (" depth " : Str).length) (by rw [la, l1, l2]; omega), ?_⟩⟩
    refine ⟨_, rfl, x, _, dx, _, u, rfl, g3 _ _ hx2, C.c, C.n, rfl, u, a, rfl, hu2.mono g3, by omega, fun H4 g4 => ⟨_, rfl, n4, _, _, rfl, rfl, sz (n := ("size " ++ Str.ofString (toString ((a.size : Nat) : Int)) ++ " depth " : Str).length + _) (by rw [la, la, l1, l2]; omega), ?_⟩⟩
    exact q u H4 (fun b o hb z => g4 _ _ (g3 _ _ (by rw [upd_ne hb]; exact g1 _ _ (g0 _ _ z)))) (g4 _ _ (g3 _ _ hx2)) (hu2.mono (g3.trans g4))
  | say_bad _ l e hl hrd =>
    refine q_w0 rfl hS (ite2 (fun _ => ?_) fun z => absurd (show decide (("say" : Str) = "say") = true by decide +kernel) z)
    exact ⟨_, rfl, p, _, _, _, rfl, rfl, hS0, at1, l, rfl, hl, (fun z => (by rw [hrd] at z; cases z)), fun a' ha' => (by rw [hrd] at ha'; cases ha'), fun e' he => by rw [hrd] at he; injection he with he; injection he with he; subst he; exact Rz.mono q g0⟩
  | nothing c hns =>
    have hw : c.word ≠ "say" := fun e => by
      cases c <;> first | exact absurd rfl (hns _) | exact absurd e (show ¬ (_ : Str) = "say" from (by decide +kernel : ("put" : Str) ≠ "say")) | exact absurd e (show ¬ (_ : Str) = "say" from (by decide +kernel : ("judge" : Str) ≠ "say")) | exact absurd e (show ¬ (_ : Str) = "say" from (by decide +kernel : ("alike" : Str) ≠ "say")) | exact absurd e (show ¬ (_ : Str) = "say" from (by decide +kernel : ("row" : Str) ≠ "say")) | exact absurd e (show ¬ (_ : Str) = "say" from (by decide +kernel : ("self" : Str) ≠ "say")) | exact absurd e (show ¬ (_ : Str) = "say" from (by decide +kernel : ("kinds" : Str) ≠ "say")) | exact absurd e (show ¬ (_ : Str) = "say" from (by decide +kernel : ("chain" : Str) ≠ "say"))
    refine q_w0 rfl hS (ite2 (fun z => absurd (of_decide_eq_true z) hw) fun _ => ?_)
    have hv : v = .non := hk
    refine ⟨_, rfl, x, _, dx, _, v, rfl, hx0, C.c, C.n, rfl, rfl, _, rfl, ite2 (fun _ => ?_) fun z => absurd (decide_eq_true hv) z⟩
    exact q _ _ _ g0 ⟨rfl, rfl⟩
  | put_bad a c l e hl hrd =>
    obtain ⟨ha, hz120, hht, hnn⟩ := kept rfl
    have ha0 := ha.mono g0
    refine q_w0 rfl hS (ite2 (fun z => absurd z (show ¬ decide (("put" : Str) = "say") = true by decide +kernel)) fun _ => ?_)
    refine ⟨_, rfl, x, _, dx, _, v, rfl, hx0, C.c, C.n, rfl, rfl, _, rfl, ite2 (fun z => absurd (of_decide_eq_true z) hnn) fun _ => ?_⟩
    refine q_w0 rfl hS (ite2 (fun _ => ?_) fun z => absurd (show decide (("put" : Str) = "put") = true by decide +kernel) z)
    refine ⟨_, rfl, x, dx, _, rfl, hx0, rfl, _, rfl, p, _, _, _, rfl, rfl, hS0, at1, _, rfl, p, _, _, _, rfl, rfl, hS0, at2, l, rfl, hl, (fun z => (by rw [hrd] at z; cases z)), fun a' ha' => (by rw [hrd] at ha'; cases ha'), fun e' he => ?_⟩
    rw [hrd] at he
    injection he with he
    injection he with he
    subst he
    exact Rz.mono q g0
  | put_ok a c l t hl hrd hm =>
    obtain ⟨ha, hz120, hht, hnn⟩ := kept rfl
    have ha0 := ha.mono g0
    refine q_w0 rfl hS (ite2 (fun z => absurd z (show ¬ decide (("put" : Str) = "say") = true by decide +kernel)) fun _ => ?_)
    refine ⟨_, rfl, x, _, dx, _, v, rfl, hx0, C.c, C.n, rfl, rfl, _, rfl, ite2 (fun z => absurd (of_decide_eq_true z) hnn) fun _ => ?_⟩
    refine q_w0 rfl hS (ite2 (fun _ => ?_) fun z => absurd (show decide (("put" : Str) = "put") = true by decide +kernel) z)
    refine ⟨_, rfl, x, dx, _, rfl, hx0, rfl, _, rfl, p, _, _, _, rfl, rfl, hS0, at1, _, rfl, p, _, _, _, rfl, rfl, hS0, at2, l, rfl, hl, (fun z => (by rw [hrd] at z; cases z)), fun t' ht' u H1 g1 hu => ?_, fun e' he => by rw [hrd] at he; cases he⟩
    rw [hrd] at ht'
    injection ht' with ht'
    injection ht' with ht'
    subst ht'
    have hmh := Say.ht_lt (a.put c t)
    refine ⟨x, dx, v, u, a, t, c, rfl, g1 _ _ hx0, ha0.mono g1, hu, by omega, by omega, by omega, fun z => absurd z (by omega), fun _ z H2 H3 g2 hz2 g3 => ?_⟩
    have hx2 : H2 x = _ := g2 _ _ (g1 _ _ hx0)
    exact q z H3 (fun b o hb y => g3 _ _ (by rw [upd_ne hb]; exact g2 _ _ (g1 _ _ (g0 _ _ y)))) (g3 _ _ upd_same) ((hz2.put_desk hx2).mono g3)
  | put_many a c l t hl hrd hmh hms hm =>
    obtain ⟨ha, hz120, hht, hnn⟩ := kept rfl
    have ha0 := ha.mono g0
    refine q_w0 rfl hS (ite2 (fun z => absurd z (show ¬ decide (("put" : Str) = "say") = true by decide +kernel)) fun _ => ?_)
    refine ⟨_, rfl, x, _, dx, _, v, rfl, hx0, C.c, C.n, rfl, rfl, _, rfl, ite2 (fun z => absurd (of_decide_eq_true z) hnn) fun _ => ?_⟩
    refine q_w0 rfl hS (ite2 (fun _ => ?_) fun z => absurd (show decide (("put" : Str) = "put") = true by decide +kernel) z)
    refine ⟨_, rfl, x, dx, _, rfl, hx0, rfl, _, rfl, p, _, _, _, rfl, rfl, hS0, at1, _, rfl, p, _, _, _, rfl, rfl, hS0, at2, l, rfl, hl, (fun z => (by rw [hrd] at z; cases z)), fun t' ht' u H1 g1 hu => ?_, fun e' he => by rw [hrd] at he; cases he⟩
    rw [hrd] at ht'
    injection ht' with ht'
    injection ht' with ht'
    subst ht'
    exact ⟨x, dx, v, u, a, t, c, rfl, g1 _ _ hx0, ha0.mono g1, hu, by omega, hmh, hms, fun _ => Rz.mono q (g0.trans g1), fun z => absurd z (by omega)⟩
  | chain a ms =>
    obtain ⟨ha, hz120, hht, hnn⟩ := kept rfl
    have ha0 := ha.mono g0
    refine q_w0 rfl hS (ite2 (fun z => absurd z (show ¬ decide (("chain" : Str) = "say") = true by decide +kernel)) fun _ => ?_)
    refine ⟨_, rfl, x, _, dx, _, v, rfl, hx0, C.c, C.n, rfl, rfl, _, rfl, ite2 (fun z => absurd (of_decide_eq_true z) hnn) fun _ => ?_⟩
    refine q_w0 rfl hS (ite2 (fun z => absurd z (show ¬ decide (("chain" : Str) = "put") = true by decide +kernel)) fun _ => ?_)
    refine q_w0 rfl hS (ite2 (fun _ => ?_) fun z => absurd (show decide (("chain" : Str) = "chain") = true by decide +kernel) z)
    obtain ⟨hne, hml⟩ := hok
    refine ⟨_, rfl, _, rfl, p, _, rfl, hS0, fun b nb => ?_⟩
    have ecut : cutV ((Cmd.chain ms).out.map fun l => V.str (S l)) (some 1) none = ms.map fun m => V.str (S (mt m)) := by
      show cutV (V.str (S _) :: (ms.map mt).map fun l => V.str (S l)) (some 1) none = _
      rw [cut_rest, List.map_map]; rfl
    rw [ecut]
    have g1 := same_new nb (.lst (ms.map fun m => V.str (S (mt m))))
    intro y dy ny nd ned
    refine mk_chain Ch.c Ch.n (SqL.of upd_same) hne (by omega) ny nd ned fun p2 zs H2 g2 hy hp2 hR => ⟨rfl, ?_⟩
    have g02 := g1.trans g2
    refine ⟨y, dy, _, rfl, hy, rfl, _, rfl, x, _, dx, _, v, rfl, g02 _ _ hx0, C.c, C.n, rfl, y, _, dy, p2, zs, ms, v, a, rfl, hy, Ch.c, Ch.n, SqL.of hp2, hR, by omega, ha0.mono g02, by omega, fun p3 H3 g3 np3 hp3 => ?_⟩
    have hwl := worthS_len ms a
    refine ⟨p3, _, rfl, SqL.of hp3, by omega, fun H4 g4 => ?_⟩
    have gg := g02.trans (g3.trans g4)
    exact q v H4 (fun b o _ z => gg _ _ (g0 _ _ z)) (gg _ _ hx0) (ha0.mono gg)
  | row_letter a c r hl =>
    obtain ⟨ha, hz120, hht, hnn⟩ := kept rfl
    have ha0 := ha.mono g0
    refine q_w0 rfl hS (ite2 (fun z => absurd z (show ¬ decide (("row" : Str) = "say") = true by decide +kernel)) fun _ => ?_)
    refine ⟨_, rfl, x, _, dx, _, v, rfl, hx0, C.c, C.n, rfl, rfl, _, rfl, ite2 (fun z => absurd (of_decide_eq_true z) hnn) fun _ => ?_⟩
    refine q_w0 rfl hS (ite2 (fun z => absurd z (show ¬ decide (("row" : Str) = "put") = true by decide +kernel)) fun _ => ?_)
    refine q_w0 rfl hS (ite2 (fun z => absurd z (show ¬ decide (("row" : Str) = "chain") = true by decide +kernel)) fun _ => ?_)
    refine q_w0 rfl hS (ite2 (fun _ => ?_) fun z => absurd (show decide (("row" : Str) = "row") = true by decide +kernel) z)
    refine ⟨_, rfl, x, _, dx, _, v, rfl, hx0, C.c, C.n, rfl, v, a, rfl, ha0, by omega, by omega, fun c' r' e => ?_, fun e => by rw [hl] at e; cases e⟩
    rw [hl] at e
    injection e with e1 e2
    subst e1
    exact Rz.mono q g0
  | row_ok a hl =>
    obtain ⟨ha, hz120, hht, hnn⟩ := kept rfl
    have ha0 := ha.mono g0
    refine q_w0 rfl hS (ite2 (fun z => absurd z (show ¬ decide (("row" : Str) = "say") = true by decide +kernel)) fun _ => ?_)
    refine ⟨_, rfl, x, _, dx, _, v, rfl, hx0, C.c, C.n, rfl, rfl, _, rfl, ite2 (fun z => absurd (of_decide_eq_true z) hnn) fun _ => ?_⟩
    refine q_w0 rfl hS (ite2 (fun z => absurd z (show ¬ decide (("row" : Str) = "put") = true by decide +kernel)) fun _ => ?_)
    refine q_w0 rfl hS (ite2 (fun z => absurd z (show ¬ decide (("row" : Str) = "chain") = true by decide +kernel)) fun _ => ?_)
    refine q_w0 rfl hS (ite2 (fun _ => ?_) fun z => absurd (show decide (("row" : Str) = "row") = true by decide +kernel) z)
    refine ⟨_, rfl, x, _, dx, _, v, rfl, hx0, C.c, C.n, rfl, v, a, rfl, ha0, by omega, by omega, fun c' r' e => (by rw [hl] at e; cases e), fun _ p2 H1 g1 np2 hp2 => ?_⟩
    have hwl := worthS_len (rowMs a) a
    have hrl : (rowMs a).length = a.depth + 1 := by simp [rowMs]
    have hdl := Say.depth_le a
    refine ⟨p2, _, rfl, SqL.of hp2, by rw [List.length_reverse]; omega, fun H2 g2 => ?_⟩
    have gg := g1.trans g2
    exact q v H2 (fun b o _ z => gg _ _ (g0 _ _ z)) (gg _ _ hx0) (ha0.mono gg)
  | self_out a ho =>
    obtain ⟨ha, hz120, hht, hnn⟩ := kept rfl
    have ha0 := ha.mono g0
    refine q_w0 rfl hS (ite2 (fun z => absurd z (show ¬ decide (("self" : Str) = "say") = true by decide +kernel)) fun _ => ?_)
    refine ⟨_, rfl, x, _, dx, _, v, rfl, hx0, C.c, C.n, rfl, rfl, _, rfl, ite2 (fun z => absurd (of_decide_eq_true z) hnn) fun _ => ?_⟩
    refine q_w0 rfl hS (ite2 (fun z => absurd z (show ¬ decide (("self" : Str) = "put") = true by decide +kernel)) fun _ => ?_)
    refine q_w0 rfl hS (ite2 (fun z => absurd z (show ¬ decide (("self" : Str) = "chain") = true by decide +kernel)) fun _ => ?_)
    refine q_w0 rfl hS (ite2 (fun z => absurd z (show ¬ decide (("self" : Str) = "row") = true by decide +kernel)) fun _ => ?_)
    refine q_w0 rfl hS (ite2 (fun _ => ?_) fun z => absurd (show decide (("self" : Str) = "self") = true by decide +kernel) z)
    exact ⟨_, rfl, x, _, dx, _, v, rfl, hx0, C.c, C.n, rfl, v, a, _, rfl, ha0, by omega, by omega, .inl ⟨ho, rfl⟩, Rz.mono q g0⟩
  | self_many a ho hm =>
    obtain ⟨ha, hz120, hht, hnn⟩ := kept rfl
    have ha0 := ha.mono g0
    refine q_w0 rfl hS (ite2 (fun z => absurd z (show ¬ decide (("self" : Str) = "say") = true by decide +kernel)) fun _ => ?_)
    refine ⟨_, rfl, x, _, dx, _, v, rfl, hx0, C.c, C.n, rfl, rfl, _, rfl, ite2 (fun z => absurd (of_decide_eq_true z) hnn) fun _ => ?_⟩
    refine q_w0 rfl hS (ite2 (fun z => absurd z (show ¬ decide (("self" : Str) = "put") = true by decide +kernel)) fun _ => ?_)
    refine q_w0 rfl hS (ite2 (fun z => absurd z (show ¬ decide (("self" : Str) = "chain") = true by decide +kernel)) fun _ => ?_)
    refine q_w0 rfl hS (ite2 (fun z => absurd z (show ¬ decide (("self" : Str) = "row") = true by decide +kernel)) fun _ => ?_)
    refine q_w0 rfl hS (ite2 (fun _ => ?_) fun z => absurd (show decide (("self" : Str) = "self") = true by decide +kernel) z)
    exact ⟨_, rfl, x, _, dx, _, v, rfl, hx0, C.c, C.n, rfl, v, a, _, rfl, ha0, by omega, by omega, .inr ⟨ho, hm, rfl⟩, Rz.mono q g0⟩
  | kinds_many a hm =>
    obtain ⟨ha, hz120, hht, hnn⟩ := kept rfl
    have ha0 := ha.mono g0
    refine q_w0 rfl hS (ite2 (fun z => absurd z (show ¬ decide (("kinds" : Str) = "say") = true by decide +kernel)) fun _ => ?_)
    refine ⟨_, rfl, x, _, dx, _, v, rfl, hx0, C.c, C.n, rfl, rfl, _, rfl, ite2 (fun z => absurd (of_decide_eq_true z) hnn) fun _ => ?_⟩
    refine q_w0 rfl hS (ite2 (fun z => absurd z (show ¬ decide (("kinds" : Str) = "put") = true by decide +kernel)) fun _ => ?_)
    refine q_w0 rfl hS (ite2 (fun z => absurd z (show ¬ decide (("kinds" : Str) = "chain") = true by decide +kernel)) fun _ => ?_)
    refine q_w0 rfl hS (ite2 (fun z => absurd z (show ¬ decide (("kinds" : Str) = "row") = true by decide +kernel)) fun _ => ?_)
    refine q_w0 rfl hS (ite2 (fun z => absurd z (show ¬ decide (("kinds" : Str) = "self") = true by decide +kernel)) fun _ => ?_)
    refine q_w0 rfl hS (ite2 (fun _ => ?_) fun z => absurd (show decide (("kinds" : Str) = "kinds") = true by decide +kernel) z)
    exact ⟨_, rfl, x, _, dx, _, v, rfl, hx0, C.c, C.n, rfl, v, a, rfl, ha0, by omega, by omega, hT0, by omega, fun _ => Rz.mono q g0, fun z => absurd z (by omega)⟩
  | kinds_any a hm =>
    obtain ⟨ha, hz120, hht, hnn⟩ := kept rfl
    have ha0 := ha.mono g0
    refine q_w0 rfl hS (ite2 (fun z => absurd z (show ¬ decide (("kinds" : Str) = "say") = true by decide +kernel)) fun _ => ?_)
    refine ⟨_, rfl, x, _, dx, _, v, rfl, hx0, C.c, C.n, rfl, rfl, _, rfl, ite2 (fun z => absurd (of_decide_eq_true z) hnn) fun _ => ?_⟩
    refine q_w0 rfl hS (ite2 (fun z => absurd z (show ¬ decide (("kinds" : Str) = "put") = true by decide +kernel)) fun _ => ?_)
    refine q_w0 rfl hS (ite2 (fun z => absurd z (show ¬ decide (("kinds" : Str) = "chain") = true by decide +kernel)) fun _ => ?_)
    refine q_w0 rfl hS (ite2 (fun z => absurd z (show ¬ decide (("kinds" : Str) = "row") = true by decide +kernel)) fun _ => ?_)
    refine q_w0 rfl hS (ite2 (fun z => absurd z (show ¬ decide (("kinds" : Str) = "self") = true by decide +kernel)) fun _ => ?_)
    refine q_w0 rfl hS (ite2 (fun _ => ?_) fun z => absurd (show decide (("kinds" : Str) = "kinds") = true by decide +kernel) z)
    refine ⟨_, rfl, x, _, dx, _, v, rfl, hx0, C.c, C.n, rfl, v, a, rfl, ha0, by omega, by omega, hT0, by omega, fun z => absurd z (by omega), fun _ b H1 g1 hT1 => ⟨b, rfl, ?_⟩⟩
    have fin : ∀ t : Str, t.length ≤ 3 → tRet (tOp (fun x y H Q => ∃ i j, x = .str i ∧ y = .str j ∧ i.length + j.length ≤ sizeLine ∧ Q (.str (i ++ j)) H) (tOp (fun x y H Q => ∃ i j, x = .str i ∧ y = .str j ∧ i.length + j.length ≤ sizeLine ∧ Q (.str (i ++ j)) H) (tCB (fun xs H Q => ∃ i, xs = [.int i] ∧ i.natAbs.log2 < 1920 ∧ Q (.str (toString i)) H) (tCons (tCB (fun xs H Q => ∃ p ys, xs = [.ref p] ∧ (SqL K H p ys ∨ SqT K H p ys) ∧ Q (.int ys.length) H) (tCons (tCl (spKinds (K := K) pT qT) E (tCons (tFld K (tVar 0) "kept") tNil)) tNil)) tNil)) (tC (.str " "))) (tVar 3)) { nx := fun _ H' => Q .non H', rt := Q } [some (.ref x), some (.str (S Cmd.kinds.line)), some (.ref p), some (.str t)] H1 := by
      intro t htl
      refine ⟨_, rfl, x, _, dx, _, v, rfl, g1 _ _ hx0 (fun ps z => by cases z), C.c, C.n, rfl, v, a, rfl, ha0.extN g1, by omega, by omega, hT1, by omega, fun z => absurd z (by omega), fun _ p2 ys H2 g2 hT2 hp2 hyl hys => ?_⟩
      obtain ⟨n1, n2⟩ := num_short ys.length (by omega)
      have la : ∀ a b : Str, (a ++ b).length = a.length + b.length := fun a b => by rw [← S_tl a, ← S_tl b, S_cat, S_length, S_length, S_length, List.length_append]
      have l1 : (" " : Str).length = 1 := by decide +kernel
      refine ⟨p2, ys, rfl, .inl (SqL.of hp2), _, rfl, n2, _, _, rfl, rfl, sz (n := _ + (" " : Str).length) (by rw [l1]; omega), _, rfl, _, _, rfl, rfl, sz (n := (Str.ofString (toString ((ys.length : Nat) : Int)) ++ " " : Str).length + t.length) (by rw [la, l1]; omega), ?_⟩
      exact q _ H2 ((LamX.ExtN.of g0).trans (g1.trans g2)) hT2
    cases b with
    | true => exact iteT (fin "yes" (by decide +kernel))
    | false => exact ite2 (fun z => absurd z (by simp)) fun _ => fin "no" (by decide +kernel)
  | judge a hc =>
    obtain ⟨ha, hz120, hht, hnn⟩ := kept rfl
    have ha0 := ha.mono g0
    refine q_w0 rfl hS (ite2 (fun z => absurd z (show ¬ decide (("judge" : Str) = "say") = true by decide +kernel)) fun _ => ?_)
    refine ⟨_, rfl, x, _, dx, _, v, rfl, hx0, C.c, C.n, rfl, rfl, _, rfl, ite2 (fun z => absurd (of_decide_eq_true z) hnn) fun _ => ?_⟩
    refine q_w0 rfl hS (ite2 (fun z => absurd z (show ¬ decide (("judge" : Str) = "put") = true by decide +kernel)) fun _ => ?_)
    refine q_w0 rfl hS (ite2 (fun z => absurd z (show ¬ decide (("judge" : Str) = "chain") = true by decide +kernel)) fun _ => ?_)
    refine q_w0 rfl hS (ite2 (fun z => absurd z (show ¬ decide (("judge" : Str) = "row") = true by decide +kernel)) fun _ => ?_)
    refine q_w0 rfl hS (ite2 (fun z => absurd z (show ¬ decide (("judge" : Str) = "self") = true by decide +kernel)) fun _ => ?_)
    refine q_w0 rfl hS (ite2 (fun z => absurd z (show ¬ decide (("judge" : Str) = "kinds") = true by decide +kernel)) fun _ => ?_)
    exact ⟨_, rfl, x, dx, _, rfl, hx0, rfl, _, rfl, x, dx, p, v, a, .judge, _, rfl, hx0, ha0, by omega, by omega, hS0, .inl ⟨rfl, hc, rfl⟩, Rz.mono q g0⟩
  | alike_bad a l e hl hrd =>
    obtain ⟨ha, hz120, hht, hnn⟩ := kept rfl
    have ha0 := ha.mono g0
    refine q_w0 rfl hS (ite2 (fun z => absurd z (show ¬ decide (("alike" : Str) = "say") = true by decide +kernel)) fun _ => ?_)
    refine ⟨_, rfl, x, _, dx, _, v, rfl, hx0, C.c, C.n, rfl, rfl, _, rfl, ite2 (fun z => absurd (of_decide_eq_true z) hnn) fun _ => ?_⟩
    refine q_w0 rfl hS (ite2 (fun z => absurd z (show ¬ decide (("alike" : Str) = "put") = true by decide +kernel)) fun _ => ?_)
    refine q_w0 rfl hS (ite2 (fun z => absurd z (show ¬ decide (("alike" : Str) = "chain") = true by decide +kernel)) fun _ => ?_)
    refine q_w0 rfl hS (ite2 (fun z => absurd z (show ¬ decide (("alike" : Str) = "row") = true by decide +kernel)) fun _ => ?_)
    refine q_w0 rfl hS (ite2 (fun z => absurd z (show ¬ decide (("alike" : Str) = "self") = true by decide +kernel)) fun _ => ?_)
    refine q_w0 rfl hS (ite2 (fun z => absurd z (show ¬ decide (("alike" : Str) = "kinds") = true by decide +kernel)) fun _ => ?_)
    exact ⟨_, rfl, x, dx, _, rfl, hx0, rfl, _, rfl, x, dx, p, v, a, .alike l, _, rfl, hx0, ha0, by omega, by omega, hS0, .inr ⟨l, rfl, hl, .inl ⟨e, hrd, rfl⟩⟩, Rz.mono q g0⟩
  | alike_many a l t hl hrd ht1 ht2 hc =>
    obtain ⟨ha, hz120, hht, hnn⟩ := kept rfl
    have ha0 := ha.mono g0
    refine q_w0 rfl hS (ite2 (fun z => absurd z (show ¬ decide (("alike" : Str) = "say") = true by decide +kernel)) fun _ => ?_)
    refine ⟨_, rfl, x, _, dx, _, v, rfl, hx0, C.c, C.n, rfl, rfl, _, rfl, ite2 (fun z => absurd (of_decide_eq_true z) hnn) fun _ => ?_⟩
    refine q_w0 rfl hS (ite2 (fun z => absurd z (show ¬ decide (("alike" : Str) = "put") = true by decide +kernel)) fun _ => ?_)
    refine q_w0 rfl hS (ite2 (fun z => absurd z (show ¬ decide (("alike" : Str) = "chain") = true by decide +kernel)) fun _ => ?_)
    refine q_w0 rfl hS (ite2 (fun z => absurd z (show ¬ decide (("alike" : Str) = "row") = true by decide +kernel)) fun _ => ?_)
    refine q_w0 rfl hS (ite2 (fun z => absurd z (show ¬ decide (("alike" : Str) = "self") = true by decide +kernel)) fun _ => ?_)
    refine q_w0 rfl hS (ite2 (fun z => absurd z (show ¬ decide (("alike" : Str) = "kinds") = true by decide +kernel)) fun _ => ?_)
    exact ⟨_, rfl, x, dx, _, rfl, hx0, rfl, _, rfl, x, dx, p, v, a, .alike l, _, rfl, hx0, ha0, by omega, by omega, hS0, .inr ⟨l, rfl, hl, .inr ⟨t, hrd, ht1, ht2, hc, rfl⟩⟩, Rz.mono q g0⟩
end
end SD
namespace SD
open PySem PySem.Spec PyProof.Rows L2 SX
/-- what the law tells of a refusal -/
def dueL : Bad → List V | .nothing => [.str "nothing"] | .saying n => [.str "saying", .int n] | .letter c => [.str "letter", .str c.str] | .many => [.str "many"] | .outside => [.str "outside"]
def Bad.cls : Bad → Str | .nothing => "Nothing" | .saying _ => "NoSaying" | .letter _ => "HasLetter" | .many => "TooMany" | .outside => "Outside"
/-- the exceptions' classes, as they are asked -/
structure KitC (K : PySem.W.Frag) (mg : Str → Option Value) : Prop where
  line : ∀ b : Bad, PySem.W.kitOne K (xc K b.cls) (xc K "NoLine") = some false
  noth : ∀ b : Bad, PySem.W.kitOne K (xc K b.cls) (xc K "Nothing") = some (decide (b.cls = "Nothing"))
  say : ∀ b : Bad, PySem.W.kitOne K (xc K b.cls) (xc K "NoSaying") = some (decide (b.cls = "NoSaying"))
  letter : ∀ b : Bad, PySem.W.kitOne K (xc K b.cls) (xc K "HasLetter") = some (decide (b.cls = "HasLetter"))
  many : ∀ b : Bad, PySem.W.kitOne K (xc K b.cls) (xc K "TooMany") = some (decide (b.cls = "TooMany"))
  out : ∀ b : Bad, PySem.W.kitOne K (xc K b.cls) (xc K "Outside") = some (decide (b.cls = "Outside"))
  rule : ∀ b : Bad, PySem.W.kitOne K (xc K b.cls) (xc K "NoRule") = some false
  tree : ∀ b : Bad, PySem.W.kitOne K (xc K b.cls) (xc K "NoTree") = some false
  ve : ∀ b : Bad, PySem.W.kitOne K (xc K b.cls) (.type "ValueError") = some true
  exm : ∀ b : Bad, PySem.W.exmOne K (xc K b.cls) (xc K "SayError") = some true
  c : ∀ b : Bad, ExcC K (He.ga K b.cls)
  x : ∀ b : Bad, XfC K (He.ga K b.cls)
  fs : PySem.W.findIn K (xc K "NoSaying") "place" = some none
  fl : PySem.W.findIn K (xc K "HasLetter") "letter" = some none
  gl : ∀ x ∈ (["NoLine", "Nothing", "NoSaying", "HasLetter", "TooMany", "Outside", "NoRule", "NoTree", "SayError"] : List Str), mg x = some (xc K x)
  gv : mg "ValueError" = none
theorem ExAt.cls {K : PySem.W.Frag} {H : Hp} {cls : Value} {d : Option Addr} {b : Bad} (h : ExAt K H cls d b) : cls = xc K b.cls := by cases b <;> exact h.1
theorem ExAt.dict {K : PySem.W.Frag} {H : Hp} {cls : Value} {d : Option Addr} {b : Bad} (h : ExAt K H cls d b) : ∀ dd, d = some dd → ∃ fs, H dd = some (.xd fs) := by
  intro dd e
  cases b
  · rw [h.2] at e; cases e
  · obtain ⟨_, d', h1, h2⟩ := h; rw [h1] at e; cases e; exact ⟨_, h2⟩
  · obtain ⟨_, d', h1, h2⟩ := h; rw [h1] at e; cases e; exact ⟨_, h2⟩
  · rw [h.2] at e; cases e
  · rw [h.2] at e; cases e
theorem ExAt.mono {K : PySem.W.Frag} {H H' : Hp} {cls : Value} {d : Option Addr} {b : Bad} (g : Same H H') (h : ExAt K H cls d b) : ExAt K H' cls d b := by
  cases b
  · exact h
  · obtain ⟨h0, d', h1, h2⟩ := h; exact ⟨h0, d', h1, g _ _ h2⟩
  · obtain ⟨h0, d', h1, h2⟩ := h; exact ⟨h0, d', h1, g _ _ h2⟩
  · exact h
  · exact h
section
variable {P : Program} {w : World} {K : PySem.W.Frag} {mg : Str → Option Value} {base : Heap}
def spKind : Sp := fun vs H Q _ => ∃ (a : Addr) (cls : Value) (d : Option Addr) (b : Bad), vs = [.ref a] ∧ H a = some (XO cls d a) ∧ ExAt K H cls d b ∧ ∀ (p : Addr) (H' : Hp), Same H H' → H' p = some (.lst (dueL b)) → Q (.ref p) H'
theorem xo_lst {cls : Value} {d : Option Addr} {a : Addr} {xs : List V} : XO cls d a ≠ .lst xs := by intro z; cases z
theorem dec_cls : ∀ b : Bad, decide (b.cls = "Nothing") = (match b with | .nothing => true | _ => false) ∧ decide (b.cls = "NoSaying") = (match b with | .saying _ => true | _ => false) ∧ decide (b.cls = "HasLetter") = (match b with | .letter _ => true | _ => false) ∧ decide (b.cls = "TooMany") = (match b with | .many => true | _ => false) ∧ decide (b.cls = "Outside") = (match b with | .outside => true | _ => false) := by
  have a : (("Nothing" : Str) ≠ "NoSaying" ∧ ("Nothing" : Str) ≠ "HasLetter" ∧ ("Nothing" : Str) ≠ "TooMany" ∧ ("Nothing" : Str) ≠ "Outside") ∧ (("NoSaying" : Str) ≠ "HasLetter" ∧ ("NoSaying" : Str) ≠ "TooMany" ∧ ("NoSaying" : Str) ≠ "Outside") ∧ (("HasLetter" : Str) ≠ "TooMany" ∧ ("HasLetter" : Str) ≠ "Outside") ∧ ("TooMany" : Str) ≠ "Outside" := by decide +kernel
  obtain ⟨⟨a1, a2, a3, a4⟩, ⟨b1, b2, b3⟩, ⟨c1, c2⟩, d1⟩ := a
  intro b
  cases b <;> simp only [Bad.cls] <;> refine ⟨?_, ?_, ?_, ?_, ?_⟩ <;> first | exact decide_eq_true rfl | exact decide_eq_true trivial | (refine decide_eq_false ?_; first | assumption | (apply Ne.symm; assumption))
theorem cl_kind (D : Df K mg "_law_kind" "_law_kind" "_law_kind" s_law_kind ["_law_caught"]) (T : Tx mg) (C : KitC K mg) : Cl P w K mg base CX0 1 "_law_kind" (spKind (K := K)) := by
  refine D.ok c_law_kind (fun vs H Q E h => ?_) fun f cdv A outer s H vs Q E hr h => ?_
  · obtain ⟨a, cls, d, b, rfl, _⟩ := h
    rfl
  obtain ⟨a, cls, d, b, rfl, ha, hb, k⟩ := h
  refine ⟨_, pss_cons (ps_set (i := 1) c_law_kind.nd rfl (Or.inl rfl) (pe_lst pa_nil))
    (pss_cons (ps_if (pt_val (pe_callB cr_isX rfl T.isinstance (by decide +kernel) (pa_cons (pv 0) (pa_cons (pe_glob (v := .ref (He.ga K "NoLine")) rfl (C.gl _ (by simp)) rfl) pa_nil)))) (pss_one (ps_expr (pe_bm PySem.F.plainAttrs_list PySem.F.slot_list_append PySem.F.type_list_append mt_append (pv 1) (pa_cons pe_str pa_nil)))) pss_nil)
    (pss_cons (ps_if (pt_val (pe_callB cr_isX rfl T.isinstance (by decide +kernel) (pa_cons (pv 0) (pa_cons (pe_glob (v := .ref (He.ga K "Nothing")) rfl (C.gl _ (by simp)) rfl) pa_nil)))) (pss_one (ps_expr (pe_bm PySem.F.plainAttrs_list PySem.F.slot_list_append PySem.F.type_list_append mt_append (pv 1) (pa_cons pe_str pa_nil)))) pss_nil)
    (pss_cons (ps_if (pt_val (pe_callB cr_isX rfl T.isinstance (by decide +kernel) (pa_cons (pv 0) (pa_cons (pe_glob (v := .ref (He.ga K "NoSaying")) rfl (C.gl _ (by simp)) rfl) pa_nil)))) (pss_one (ps_set (i := 1) c_law_kind.nd rfl (Or.inl rfl) (pe_op op_cat (pv 1) (pe_lst (pa_cons pe_str (pa_cons (pe_xo (pv 0)) pa_nil)))))) pss_nil)
    (pss_cons (ps_if (pt_val (pe_callB cr_isX rfl T.isinstance (by decide +kernel) (pa_cons (pv 0) (pa_cons (pe_glob (v := .ref (He.ga K "HasLetter")) rfl (C.gl _ (by simp)) rfl) pa_nil)))) (pss_one (ps_set (i := 1) c_law_kind.nd rfl (Or.inl rfl) (pe_op op_cat (pv 1) (pe_lst (pa_cons pe_str (pa_cons (pe_xo (pv 0)) pa_nil)))))) pss_nil)
    (pss_cons (ps_if (pt_val (pe_callB cr_isX rfl T.isinstance (by decide +kernel) (pa_cons (pv 0) (pa_cons (pe_glob (v := .ref (He.ga K "TooMany")) rfl (C.gl _ (by simp)) rfl) pa_nil)))) (pss_one (ps_expr (pe_bm PySem.F.plainAttrs_list PySem.F.slot_list_append PySem.F.type_list_append mt_append (pv 1) (pa_cons pe_str pa_nil)))) pss_nil)
    (pss_cons (ps_if (pt_val (pe_callB cr_isX rfl T.isinstance (by decide +kernel) (pa_cons (pv 0) (pa_cons (pe_glob (v := .ref (He.ga K "Outside")) rfl (C.gl _ (by simp)) rfl) pa_nil)))) (pss_one (ps_expr (pe_bm PySem.F.plainAttrs_list PySem.F.slot_list_append PySem.F.type_list_append mt_append (pv 1) (pa_cons pe_str pa_nil)))) pss_nil)
    (pss_cons (ps_if (PW.pt (pw_or (pt_val (pe_callB cr_isX rfl T.isinstance (by decide +kernel) (pa_cons (pv 0) (pa_cons (pe_glob (v := .ref (He.ga K "NoRule")) rfl (C.gl _ (by simp)) rfl) pa_nil)))) (pw_or (pt_val (pe_callB cr_isX rfl T.isinstance (by decide +kernel) (pa_cons (pv 0) (pa_cons (pe_glob (v := .ref (He.ga K "NoTree")) rfl (C.gl _ (by simp)) rfl) pa_nil))))
        (pw_or1 (pt_not (pt_val (pe_callB cr_isX rfl T.isinstance (by decide +kernel) (pa_cons (pv 0) (pa_cons (pe_bltn (v := .ty "ValueError") rfl C.gv PyProof.Rows.Boot.«ValueError» rfl) pa_nil))))))))) (pss_one ps_never) pss_nil)
    (pss_one (ps_ret (pv 1)))))))))), ?_⟩
  have hcls := hb.cls
  subst hcls
  refine ⟨sz (n := 0) (by decide), fun L nL => ?_⟩
  have g0 := same_new nL (.lst [])
  have hdict : ∀ {H1 : Hp}, Same H H1 → ∀ dd, d = some dd → ∃ fs, H1 dd = some (.xd fs) := fun g => (hb.mono g).dict
  have hCc := C.c b
  have go : ∀ {H1 : Hp} {Lx : Addr} {xs : List V}, Same H H1 → H Lx = none → H1 Lx = some (.lst xs) → ∀ v : V, Same H (upd H1 Lx (.lst (xs ++ [v]))) := fun {H1 Lx xs} g n _ v c o q => by rw [upd_ne (ne_of_none q n)]; exact g _ _ q
  -- the last asking
  have fin : ∀ {H1 : Hp} {Lx : Addr}, Same H H1 → H1 Lx = some (.lst (dueL b)) → tSeq (tIfS (tOr (tB (tCB (rIsX K) (tCons (tVar 0) (tCons (tC (.ref (He.ga K "NoRule"))) tNil)))) (tOr (tB (tCB (rIsX K) (tCons (tVar 0) (tCons (tC (.ref (He.ga K "NoTree"))) tNil)))) (tNot (tB (tCB (rIsX K) (tCons (tVar 0) (tCons (tC (.ty "ValueError")) tNil))))))) tNever tNext) (tRet (tVar 1)) { nx := fun _ H' => Q .non H', rt := Q } [some (.ref a), some (.ref Lx)] H1 := fun {H1 Lx} g hL => by
    refine ⟨_, rfl, a, _, _, _, xc K "NoRule", false, rfl, g _ _ ha, hdict g, hCc, fun u h => h, (C.rule b), false, rfl, ite2 (fun z => absurd z (by simp)) fun _ => ?_⟩
    refine ⟨_, rfl, a, _, _, _, xc K "NoTree", false, rfl, g _ _ ha, hdict g, hCc, fun u h => h, (C.tree b), false, rfl, ite2 (fun z => absurd z (by simp)) fun _ => ?_⟩
    refine ⟨_, rfl, a, _, _, _, .type "ValueError", true, rfl, g _ _ ha, hdict g, hCc, fun u h => h, C.ve b, true, rfl, ?_⟩
    refine ite2 (fun z => absurd z (by simp)) fun _ => ?_
    exact ⟨_, rfl, k Lx H1 g hL⟩
  obtain ⟨d1, d2, d3, d4, d5⟩ := dec_cls b
  have n1 := C.noth b
  have n2 := C.say b
  have n3 := C.letter b
  have n4 := C.many b
  have n5 := C.out b
  rw [d1] at n1; rw [d2] at n2; rw [d3] at n3; rw [d4] at n4; rw [d5] at n5
  refine ⟨_, rfl, a, _, _, _, xc K "NoLine", false, rfl, g0 _ _ ha, hdict g0, hCc, fun u h => h, (C.line b), false, rfl, ite2 (fun z => absurd z (by simp)) fun _ => ?_⟩
  have app : ∀ {H1 : Hp} {xs : List V} {v : V} {σ : L2.St} {Q : Hp → Prop}, σ[1]? = some (some (.ref L)) → Same H H1 → H1 L = some (.lst xs) → xs.length ≤ 10 → (Same H (upd H1 L (.lst (xs ++ [v]))) → (upd H1 L (.lst (xs ++ [v]))) L = some (.lst (xs ++ [v])) → Q (upd H1 L (.lst (xs ++ [v])))) →
      tBM K "list" rAppend (tVar 1) (tCons (tC v) tNil) σ H1 fun _ H2 => Q H2 := fun {H1 xs v σ Q} hσ g hL hl q => ⟨_, hσ, .inl ⟨rfl, _, SqL.of hL⟩, L, xs, _, rfl, rfl, hL, szml (by omega), q (go g nL hL _) upd_same⟩
  cases b with
  | nothing =>
    refine ⟨_, rfl, a, _, _, _, xc K "Nothing", true, rfl, g0 _ _ ha, hdict g0, hCc, fun u h => h, n1, true, rfl, iteT ?_⟩
    refine app rfl g0 upd_same (by simp) fun g1 h1 => ?_
    refine ⟨_, rfl, a, _, _, _, xc K "NoSaying", false, rfl, g1 _ _ ha, hdict g1, hCc, fun u h => h, n2, false, rfl, ite2 (fun z => absurd z (by simp)) fun _ => ?_⟩
    refine ⟨_, rfl, a, _, _, _, xc K "HasLetter", false, rfl, g1 _ _ ha, hdict g1, hCc, fun u h => h, n3, false, rfl, ite2 (fun z => absurd z (by simp)) fun _ => ?_⟩
    refine ⟨_, rfl, a, _, _, _, xc K "TooMany", false, rfl, g1 _ _ ha, hdict g1, hCc, fun u h => h, n4, false, rfl, ite2 (fun z => absurd z (by simp)) fun _ => ?_⟩
    refine ⟨_, rfl, a, _, _, _, xc K "Outside", false, rfl, g1 _ _ ha, hdict g1, hCc, fun u h => h, n5, false, rfl, ite2 (fun z => absurd z (by simp)) fun _ => ?_⟩
    exact fin g1 h1
  | saying n =>
    obtain ⟨_, dd, hd, hdd⟩ := hb
    subst hd
    refine ⟨_, rfl, a, _, _, _, xc K "Nothing", false, rfl, g0 _ _ ha, hdict g0, hCc, fun u h => h, n1, false, rfl, ite2 (fun z => absurd z (by simp)) fun _ => ?_⟩
    refine ⟨_, rfl, a, _, _, _, xc K "NoSaying", true, rfl, g0 _ _ ha, hdict g0, hCc, fun u h => h, n2, true, rfl, iteT ?_⟩
    refine ⟨_, rfl, _, rfl, a, He.ga K "NoSaying", dd, _, _, rfl, g0 _ _ ha, C.x (.saying n), C.fs, g0 _ _ hdd, rfl, sz (n := 2) (by decide), fun q nq => ⟨L, q, [], _, rfl, rfl, same_new nq _ _ _ upd_same, upd_same, sz (n := 2) (by decide), fun p np => ?_⟩⟩
    have g1 : Same H _ := g0.trans ((same_new nq (.lst [.str "saying", .int n])).trans (same_new np (.lst ([] ++ [.str "saying", .int n]))))
    refine ⟨_, rfl, a, _, _, _, xc K "HasLetter", false, rfl, g1 _ _ ha, hdict g1, hCc, fun u h => h, n3, false, rfl, ite2 (fun z => absurd z (by simp)) fun _ => ?_⟩
    refine ⟨_, rfl, a, _, _, _, xc K "TooMany", false, rfl, g1 _ _ ha, hdict g1, hCc, fun u h => h, n4, false, rfl, ite2 (fun z => absurd z (by simp)) fun _ => ?_⟩
    refine ⟨_, rfl, a, _, _, _, xc K "Outside", false, rfl, g1 _ _ ha, hdict g1, hCc, fun u h => h, n5, false, rfl, ite2 (fun z => absurd z (by simp)) fun _ => ?_⟩
    exact fin g1 upd_same
  | letter c =>
    obtain ⟨_, dd, hd, hdd⟩ := hb
    subst hd
    refine ⟨_, rfl, a, _, _, _, xc K "Nothing", false, rfl, g0 _ _ ha, hdict g0, hCc, fun u h => h, n1, false, rfl, ite2 (fun z => absurd z (by simp)) fun _ => ?_⟩
    refine ⟨_, rfl, a, _, _, _, xc K "NoSaying", false, rfl, g0 _ _ ha, hdict g0, hCc, fun u h => h, n2, false, rfl, ite2 (fun z => absurd z (by simp)) fun _ => ?_⟩
    refine ⟨_, rfl, a, _, _, _, xc K "HasLetter", true, rfl, g0 _ _ ha, hdict g0, hCc, fun u h => h, n3, true, rfl, iteT ?_⟩
    refine ⟨_, rfl, _, rfl, a, He.ga K "HasLetter", dd, _, _, rfl, g0 _ _ ha, C.x (.letter c), C.fl, g0 _ _ hdd, rfl, sz (n := 2) (by decide), fun q nq => ⟨L, q, [], _, rfl, rfl, same_new nq _ _ _ upd_same, upd_same, sz (n := 2) (by decide), fun p np => ?_⟩⟩
    have g1 : Same H _ := g0.trans ((same_new nq (.lst [.str "letter", .str c.str])).trans (same_new np (.lst ([] ++ [.str "letter", .str c.str]))))
    refine ⟨_, rfl, a, _, _, _, xc K "TooMany", false, rfl, g1 _ _ ha, hdict g1, hCc, fun u h => h, n4, false, rfl, ite2 (fun z => absurd z (by simp)) fun _ => ?_⟩
    refine ⟨_, rfl, a, _, _, _, xc K "Outside", false, rfl, g1 _ _ ha, hdict g1, hCc, fun u h => h, n5, false, rfl, ite2 (fun z => absurd z (by simp)) fun _ => ?_⟩
    exact fin g1 upd_same
  | many =>
    refine ⟨_, rfl, a, _, _, _, xc K "Nothing", false, rfl, g0 _ _ ha, hdict g0, hCc, fun u h => h, n1, false, rfl, ite2 (fun z => absurd z (by simp)) fun _ => ?_⟩
    refine ⟨_, rfl, a, _, _, _, xc K "NoSaying", false, rfl, g0 _ _ ha, hdict g0, hCc, fun u h => h, n2, false, rfl, ite2 (fun z => absurd z (by simp)) fun _ => ?_⟩
    refine ⟨_, rfl, a, _, _, _, xc K "HasLetter", false, rfl, g0 _ _ ha, hdict g0, hCc, fun u h => h, n3, false, rfl, ite2 (fun z => absurd z (by simp)) fun _ => ?_⟩
    refine ⟨_, rfl, a, _, _, _, xc K "TooMany", true, rfl, g0 _ _ ha, hdict g0, hCc, fun u h => h, n4, true, rfl, iteT ?_⟩
    refine app rfl g0 upd_same (by simp) fun g1 h1 => ?_
    refine ⟨_, rfl, a, _, _, _, xc K "Outside", false, rfl, g1 _ _ ha, hdict g1, hCc, fun u h => h, n5, false, rfl, ite2 (fun z => absurd z (by simp)) fun _ => ?_⟩
    exact fin g1 h1
  | outside =>
    refine ⟨_, rfl, a, _, _, _, xc K "Nothing", false, rfl, g0 _ _ ha, hdict g0, hCc, fun u h => h, n1, false, rfl, ite2 (fun z => absurd z (by simp)) fun _ => ?_⟩
    refine ⟨_, rfl, a, _, _, _, xc K "NoSaying", false, rfl, g0 _ _ ha, hdict g0, hCc, fun u h => h, n2, false, rfl, ite2 (fun z => absurd z (by simp)) fun _ => ?_⟩
    refine ⟨_, rfl, a, _, _, _, xc K "HasLetter", false, rfl, g0 _ _ ha, hdict g0, hCc, fun u h => h, n3, false, rfl, ite2 (fun z => absurd z (by simp)) fun _ => ?_⟩
    refine ⟨_, rfl, a, _, _, _, xc K "TooMany", false, rfl, g0 _ _ ha, hdict g0, hCc, fun u h => h, n4, false, rfl, ite2 (fun z => absurd z (by simp)) fun _ => ?_⟩
    refine ⟨_, rfl, a, _, _, _, xc K "Outside", true, rfl, g0 _ _ ha, hdict g0, hCc, fun u h => h, n5, true, rfl, iteT ?_⟩
    refine app rfl g0 upd_same (by simp) fun g1 h1 => ?_
    exact fin g1 h1
end
end SD
namespace SD
open PySem PySem.Spec PyProof.Rows L2 SX
section
variable {P : Program} {w : World} {K : PySem.W.Frag} {mg : Str → Option Value} {base : Heap}
def spSaid (pT : Addr) (qT : Str) : Sp := fun vs H Q _ => ∃ (x dx : Addr) (v : V) (k : Option Say) (c : Cmd) (r : Res), vs = [.ref x, .str (S c.line)] ∧ DeskAt K H x dx v ∧ KeptAt H k v ∧ (∀ s, k = some s → s.size ≤ 120) ∧ c.ok ∧ c.line.length ≤ 50000 ∧ LamX.TabS H pT qT ∧ Does k c r ∧
  match r with
  | .txt out k' => ∀ (v' : V) (H' : Hp), Exc x H H' → DeskAt K H' x dx v' → KeptAt H' k' v' → Q (.str out) H'
  | .bad b => ∀ (p : Addr) (H' : Hp), Same H H' → H' p = some (.lst (dueL b)) → Q (.ref p) H'
  | .any => ∀ (z : Str) (H' : Hp), LamX.ExtN H H' → LamX.TabS H' pT qT → Q (.str z) H'
theorem cl_said {pT : Addr} {qT : Str} {f : Addr} (D : Df K mg "_law_said" "_law_said" "_law_said" s_law_said ["_law_desk", "_law_line"]) (C : DeskC K) (Ck : KitC K mg) (mS : Meth K (He.ga K "Desk") "say" f) (cS : Ca P w K mg base (L2.CX P w) 201 f (spSay (K := K) pT qT)) (cK : Cl P w K mg base CX0 1 "_law_kind" (spKind (K := K))) :
    Cl P w K mg base CX0 202 "_law_said" (spSaid (K := K) pT qT) := by
  obtain ⟨fd, psn, F, bn⟩ := cS.ex
  refine D.ok c_law_said (fun vs H Q E h => ?_) fun fA cdv A outer s H vs Q E hr h => ?_
  · obtain ⟨x, dx, v, k, c, r, rfl, _⟩ := h
    rfl
  obtain ⟨x, dx, v, k, c, r, rfl, hx, hk, hk120, hok, hlen, hT, hdo, q⟩ := h
  refine ⟨_, pss_cons (ps_set (i := 2) c_law_said.nd rfl (Or.inl rfl) pe_non)
    (pss_cons (ps_set (i := 3) c_law_said.nd rfl (Or.inl rfl) pe_non)
    (pss_cons (ps_try_keep (i := 4) (Wout := fun _ _ _ _ => False) rfl rfl c_law_said.nd rfl rfl ⟨rfl, by decide, .inl (Ck.gl "SayError" (by simp))⟩ LamX.takes0 rfl
        (fun W pn xe tk hp => pss_one (ps_set (i := 3) c_law_said.nd rfl (Or.inl rfl) (pe_methS (E := fun σ => WE W σ) (pv 0) C.c mS F (hr.mono (by omega)) bn (fun σ => passAt tk σ) (pa_cons (pv 1) pa_nil))))
        (fun a pn => pss_one (ps_set (i := 2) c_law_said.nd rfl (Or.inl rfl) (pv 4))))
    (pss_cons (ps_if (pt_cmpR op_notN (pv 2) pe_non rfl) (pss_one (ps_ret (pe_c0 cK hr (by omega) (pa_cons (pv 2) pa_nil)))) pss_nil)
    (pss_one (ps_ret (pv 3)))))), ?_⟩
  refine ⟨_, rfl, x, dx, _, rfl, hx, rfl, _, rfl, x, dx, v, k, c, r, rfl, hx, hk, hk120, hok, hlen, hT, hdo, ?_⟩
  cases r with
  | txt out k' =>
    intro v' H' ex hx' hk'
    exact ⟨_, rfl, rfl, _, rfl, ite2 (fun z => absurd z (by simp)) fun _ => ⟨_, rfl, q v' H' ex hx' hk'⟩⟩
  | bad b =>
    intro cls d H1 g1 hb
    have hc := hb.cls
    subst hc
    refine ⟨true, Ck.exm b, fun _ a na => ?_, fun z => by cases z⟩
    have g2 := same_new na (XO (xc K b.cls) d a)
    refine ⟨_, rfl, _, rfl, rfl, _, rfl, ?_⟩
    rw [show (!decide (V.ref a = V.non)) = true by rw [decide_eq_false (by intro z; cases z)]; rfl]
    refine iteT ?_
    refine ⟨_, rfl, a, _, d, b, rfl, upd_same, hb.mono g2, fun p H' g3 hp => ?_⟩
    exact q p H' (g1.trans (g2.trans g3)) hp
  | any =>
    intro z H' g gT
    exact ⟨_, rfl, rfl, _, rfl, ite2 (fun z => absurd z (by simp)) fun _ => ⟨_, rfl, q z H' g gT⟩⟩
end
end SD
namespace SD
open PySem PySem.Spec PyProof.Rows L2 SX
/-! # the law's lines -/
def Res.kept : Res → Option Say → Option Say | .txt _ k', _ => k' | _, k => k
def DueAt (H : Hp) : Res → V → Prop | .txt out _, v => v = .str out | .bad b, v => ∃ p, v = .ref p ∧ H p = some (.lst (dueL b)) | .any, v => v = .non
def StAt (H : Hp) (st : Addr) (v : V) (b : Bool) : Prop := H st = some (.dK [(Sum.inr "kept", v), (Sum.inr "free", .bl b)])
theorem key_ne : (("kept" : Str) = "free") = False ∧ (("free" : Str) = "kept") = False := by
  refine ⟨eq_false ?_, eq_false ?_⟩ <;> decide +kernel
theorem val_kept (v : V) (b : Bool) : valV [((Sum.inr "kept" : Key), v), (Sum.inr "free", .bl b)] (Sum.inr "kept") = some v := by
  unfold valV
  simp [List.find?]
theorem val_free (v : V) (b : Bool) : valV [((Sum.inr "kept" : Key), v), (Sum.inr "free", .bl b)] (Sum.inr "free") = some (.bl b) := by
  have h := key_ne.1
  unfold valV
  simp [List.find?, h]
theorem put_kept (v z : V) (b : Bool) : putK [((Sum.inr "kept" : Key), v), (Sum.inr "free", .bl b)] (Sum.inr "kept") z = [((Sum.inr "kept" : Key), z), (Sum.inr "free", .bl b)] := by
  simp [putK, key_ne.2]
theorem get_kept {H : Hp} {st : Addr} {v : V} {b : Bool} (h : StAt H st v b) : DGet H st (.str "kept") (some v) := .inl ⟨_, Sum.inr "kept", .inl h, rfl, (val_kept v b).symm⟩
theorem get_free {H : Hp} {st : Addr} {v : V} {b : Bool} (h : StAt H st v b) : DGet H st (.str "free") (some (.bl b)) := .inl ⟨_, Sum.inr "free", .inl h, rfl, (val_free v b).symm⟩
theorem put_dkept {H : Hp} {st : Addr} {v z : V} {b : Bool} (h : StAt H st v b) : DPut H st (.str "kept") z (upd H st (.dK [(Sum.inr "kept", z), (Sum.inr "free", .bl b)])) := .inl ⟨_, Sum.inr "kept", h, rfl, sz (n := 2 + 1) (by decide), by rw [put_kept]⟩
/-- what a line's end must give -/
def LineQ (H : Hp) (Q : VK) (st : Addr) (b : Bool) (k : Option Say) : Prop := ∀ (q : Addr) (due : V) (c : Cmd) (r : Res) (v' : V) (H' : Hp), Exc st H H' → StAt H' st v' b → Does k c r → KeptAt H' (r.kept k) v' → c.ok → c.line.length ≤ 50000 →
  H' q = some (.tup [.str (S c.line), due]) → DueAt H' r due → Q (.ref q) H'
theorem bads : ∀ p ∈ badA ++ badB, readAll 130 p.1.cps.toList = some (.inr p.2.toNat) ∧ 0 ≤ p.2 ∧ 32 ∉ p.1.cps.toList ∧ p.1.cps.toList.length ≤ 20 := by decide +kernel
theorem dict_tup {st a : Addr} {kvs : List (Key × V)} {H : Hp} {xs : List V} (hx : H st = some (.dK kvs)) (ha : H a = some (.tup xs)) : a ≠ st := by
  rintro rfl
  rw [hx] at ha
  cases ha
theorem SayAt.put_st {st : Addr} {kvs : List (Key × V)} {o : HO} {H : Hp} (hx : H st = some (.dK kvs)) : ∀ {s : Say} {v : V}, SayAt H s v → SayAt (upd H st o) s v := by
  have t : ∀ {a : Addr} {ys : List V}, H a = some (.tup ys) → (upd H st o) a = some (.tup ys) := fun {a ys} h => by rw [upd_ne (dict_tup hx h)]; exact h
  intro s
  induction s with
  | no => rintro v ⟨a, e, h⟩; exact ⟨a, e, t h⟩
  | letter c => rintro v ⟨a, e, h⟩; exact ⟨a, e, t h⟩
  | neg x ih => rintro v ⟨a, w, e, h, h1⟩; exact ⟨a, w, e, t h, ih h1⟩
  | shown x ih => rintro v ⟨a, w, e, h, h1⟩; exact ⟨a, w, e, t h, ih h1⟩
  | bin o x y ih1 ih2 => rintro v ⟨a, w, u, e, h, h1, h2⟩; exact ⟨a, w, u, e, t h, ih1 h1, ih2 h2⟩
theorem KeptAt.mono {H H' : Hp} {k : Option Say} {v : V} (g : Same H H') (h : KeptAt H k v) : KeptAt H' k v := by
  cases k with
  | none => exact h
  | some s => exact SayAt.mono g h
theorem str_S (z : Str) : z = S z.cps.toList := (S_tl z).symm
theorem say_S : ("say " : Str) = S [115, 97, 121, 32] ∧ ("put " : Str) = S [112, 117, 116, 32] ∧ (" " : Str) = S [32] ∧ ("chain " : Str) = S [99, 104, 97, 105, 110, 32] ∧ ("alike " : Str) = S [97, 108, 105, 107, 101, 32] := by decide +kernel
theorem la (a b : Str) : (a ++ b).length = a.length + b.length := by rw [← S_tl a, ← S_tl b, S_cat, S_length, S_length, S_length, List.length_append]
section
variable {P : Program} {w : World} {K : PySem.W.Frag} {mg : Str → Option Value} {base : Heap}
def spSayLine : Sp := fun vs H Q _ => ∃ (st a : Addr) (ns : List Int) (kk : Nat) (cell : Int) (v : V) (b : Bool) (k : Option Say), vs = [.ref st, .ref a, .int kk, .int cell] ∧ SqL K H a (ns.map V.int) ∧ ns.length ≤ 1000 ∧ kk ≤ 100 ∧ StAt H st v b ∧ KeptAt H k v ∧ LineQ H Q st b k
abbrev rAS : R2 := fun x y H Q => ∃ i j, x = .str i ∧ y = .str j ∧ i.length + j.length ≤ sizeLine ∧ Q (.str (i ++ j)) H
abbrev rSI : List V → Hp → VK → Prop := fun xs H Q => ∃ i, xs = [.int i] ∧ i.natAbs.log2 < 1920 ∧ Q (.str (toString i)) H
abbrev rMd : R2 := rI (fun _ j => 0 < j) fun i j => .int (i % j)
abbrev rFd : R2 := rI CDiv fun i j => .int (i / j)
theorem lsT3 : ("pqr" : Str) = LsT [.p, .q, .r] ∧ ("p" : Str) = LsT [.p] ∧ ("q" : Str) = LsT [.q] := by decide +kernel
/-- three letters' texts -/
theorem q_three {y : V} (h : y ∈ [V.str "pqr", .str "p", .str "q"]) : ∃ ls : List Ltr, y = .str (LsT ls) ∧ ls ≠ [] ∧ ls.length ≤ 3 := by
  simp only [List.mem_cons, List.not_mem_nil, or_false] at h
  rcases h with rfl | rfl | rfl
  · exact ⟨[.p, .q, .r], by rw [lsT3.1], by simp, by simp⟩
  · exact ⟨[.p], by rw [lsT3.2.1], by simp, by simp⟩
  · exact ⟨[.q], by rw [lsT3.2.2], by simp, by simp⟩
theorem cl_say_line (D : Df K mg "_law_say_line" "_law_say_line" "_law_say_line" s_law_say_line ["_law_state", "_law_script", "_law_k", "_law_cell"]) (T : Tx mg) (cB : Cl P w K mg base CX0 1 "_law_bad" spBad) (cG : Cl P w K mg base CX0 132 "_law_grown" (spGrown (K := K))) (cF : Cl P w K mg base CX0 14 "_law_free" (spFree 13))
    (cP : Cl P w K mg base CX0 131 "_law_put" (spLPut 130)) (cT : Cl P w K mg base CX0 131 "_law_text" (spText 130)) (cZ : Cl P w K mg base CX0 131 "_law_size" (spSize 130)) (cD : Cl P w K mg base CX0 131 "_law_depth" (spDepth 130)) : Cl P w K mg base CX0 133 "_law_say_line" (spSayLine (K := K)) := by
  refine D.ok c_law_say_line (fun vs H Q E h => ?_) fun f cdv A outer s H vs Q E hr h => ?_
  · obtain ⟨st, a, ns, kk, cell, v, b, k, rfl, _⟩ := h
    rfl
  obtain ⟨st, a, ns, kk, cell, v, b, k, rfl, hS, hn, hk, hst, hkept, q⟩ := h
  have hu := hu_of hr
  refine ⟨_, pss_cons (ps_if (pt_cmpR op_eq (pe_op op_mod (pv 3) pe_int) pe_int (nomark _))
      (pss_cons (ps_asg (pe_c0 cB hr (by omega) (pa_cons (pe_op op_fdiv (pv 3) pe_int) pa_nil)) (pg_tup rfl (pgs_cons (pg_name (i := 6) c_law_say_line.nd rfl (Or.inl rfl)) (pgs_cons (pg_name (i := 7) c_law_say_line.nd rfl (Or.inl rfl)) pgs_nil))))
      (pss_one (ps_ret (pe_tup (pa_cons (pe_op op_add_str pe_str (pv 6)) (pa_cons (pe_lst (pa_cons pe_str (pa_cons (pv 7) pa_nil))) pa_nil)))))) pss_nil)
    (pss_cons (ps_set (i := 4) c_law_say_line.nd rfl (Or.inl rfl) (pe_ix ix_list (pe_lst (pa_cons pe_str (pa_cons pe_str (pa_cons pe_str pa_nil)))) (pe_op op_mod (pe_op op_fdiv (pv 3) pe_int) pe_int) (fun _ _ => rfl)))
    (pss_cons (ps_set (i := 5) c_law_say_line.nd rfl (Or.inl rfl) (pe_c0 cG hr (by omega) (pa_cons (pv 1) (pa_cons (pe_op op_add pe_int (pe_op op_mod (pv 2) pe_int)) (pa_cons (pe_op op_add pe_int (pe_op op_mod (pe_op op_fdiv (pv 3) pe_int) pe_int)) (pa_cons (pe_tup (pa_cons pe_int (pa_cons pe_int pa_nil))) (pa_cons (pv 4) pa_nil)))))))
    (pss_cons (ps_if (pt_val (pe_dget hu (pv 0) pe_str (fun _ _ => rfl))) (pss_one (ps_set (i := 5) c_law_say_line.nd rfl (Or.inl rfl) (pe_ix ix_tup (pe_c0 cF hr (by omega) (pa_cons (pe_op op_fdiv (pv 3) pe_int) (pa_cons pe_int pa_nil))) pe_int (fun _ _ => rfl)))) pss_nil)
    (pss_cons (ps_if (pt_cmpR op_eq (pe_op op_mod (pe_op op_fdiv (pv 3) pe_int) pe_int) pe_int (nomark _))
      (pss_one (ps_set (i := 5) c_law_say_line.nd rfl (Or.inl rfl) (pe_c0 cP hr (by omega) (pa_cons (pe_c0 cP hr (by omega) (pa_cons (pe_c0 cP hr (by omega) (pa_cons (pv 5) (pa_cons pe_str (pa_cons (pe_tup (pa_cons pe_str pa_nil)) pa_nil)))) (pa_cons pe_str (pa_cons (pe_tup (pa_cons pe_str (pa_cons (pe_tup (pa_cons pe_str pa_nil)) pa_nil))) pa_nil)))) (pa_cons pe_str (pa_cons (pe_tup (pa_cons pe_str pa_nil)) pa_nil)))))) pss_nil)
    (pss_cons (ps_dput hu (pv 0) pe_str (pv 5) rfl)
    (pss_one (ps_ret (pe_tup (pa_cons (pe_op op_add_str pe_str (pe_c0 cT hr (by omega) (pa_cons (pv 5) pa_nil)))
      (pa_cons (pe_op op_add_str (pe_op op_add_str (pe_op op_add_str pe_str (pe_callTy call_str_int rfl T.str (by decide +kernel) (pa_cons (pe_c0 cZ hr (by omega) (pa_cons (pv 5) pa_nil)) pa_nil))) pe_str) (pe_callTy call_str_int rfl T.str (by decide +kernel) (pa_cons (pe_c0 cD hr (by omega) (pa_cons (pv 5) pa_nil)) pa_nil))) pa_nil)))))))))), ?_⟩
  refine ⟨_, rfl, _, _, rfl, rfl, (by show (0:Int) < _; decide), rfl, _, rfl, ite2 (fun _ => ?_) fun _ => ?_⟩
  · refine ⟨_, rfl, _, _, rfl, rfl, ⟨by decide, by decide⟩, _, rfl, fun p q1 H1 hp g1 hq1 => ?_⟩
    obtain ⟨b1, b2, b3, b4⟩ := bads p hp
    have b5 : p.1.cps.size ≤ 20 := by simpa using b4
    refine ⟨q1, _, rfl, SqT.of hq1, rfl, _, _, rfl, _, _, rfl, rfl, ?_⟩
    refine ⟨_, rfl, _, _, rfl, rfl, ?_, _, rfl, sz (n := 2) (by decide), fun l nl => ⟨sz (n := 2) (by decide), fun r nr => ?_⟩⟩
    · rw [say_S.1, str_S p.1, S_length, S_length]; exact sz (by simp; omega)
    have g2 := same_new nl (.lst [.str "saying", .int p.2])
    have g3 := same_new nr (.tup [.str ("say " ++ p.1), .ref l])
    have gg := g1.trans (g2.trans g3)
    refine q r (.ref l) (.say p.1.cps.toList) (.bad (.saying p.2.toNat)) v _ (fun c o _ z => gg _ _ z) (gg _ _ hst) (Does.say_bad k _ _ (by omega) b1) (KeptAt.mono gg hkept) b3 (by simp [Cmd.line, Cmd.parts, TL.joinL]; omega) ?_ ⟨l, rfl, ?_⟩
    · rw [upd_same, say_S.1, str_S p.1, S_cat]; rfl
    · rw [g3 _ _ upd_same]
      show some (HO.lst [.str "saying", .int p.2]) = some (HO.lst [.str "saying", .int (p.2.toNat : Int)])
      rw [Int.toNat_of_nonneg b2]
  have fin : ∀ (o4 o6 o7 : Option V) (z : V) (x : Say) (H2 : Hp), Same H H2 → SayAt H2 x z → x.size ≤ 100 →
      tSeq (sDPut (tVar 0) (tC (.str "kept")) (tVar 5)) (tRet (tTup (tCons (tOp rAS (tC (.str "say ")) (tCl (spText 130) E0 (tCons (tVar 5) tNil))) (tCons (tOp rAS (tOp rAS (tOp rAS (tC (.str "size ")) (tCB rSI (tCons (tCl (spSize 130) E0 (tCons (tVar 5) tNil)) tNil))) (tC (.str " depth "))) (tCB rSI (tCons (tCl (spDepth 130) E0 (tCons (tVar 5) tNil)) tNil))) tNil))))
        { nx := fun _ H' => Q .non H', rt := Q } [some (.ref st), some (.ref a), some (.int kk), some (.int cell), o4, some z, o6, o7] H2 := by
    intro o4 o6 o7 z x H2 g2 hz hsz
    have hst2 : StAt H2 st v b := g2 _ _ hst
    refine ⟨_, rfl, _, rfl, st, _, rfl, put_dkept hst2, ?_⟩
    have hz2 := hz.put_st (o := .dK [(Sum.inr "kept", z), (Sum.inr "free", .bl b)]) hst2
    have hht := Say.ht_lt x
    have hdl := Say.depth_le x
    have htl := (Say.text_len x).1
    obtain ⟨n1, n2⟩ := num_short x.size (by omega)
    obtain ⟨n3, n4⟩ := num_short x.depth (by omega)
    have l1 : ("size " : Str).length = 5 := by decide +kernel
    have l2 : (" depth " : Str).length = 7 := by decide +kernel
    have hst3 : StAt (upd H2 st (.dK [(Sum.inr "kept", z), (Sum.inr "free", .bl b)])) st z b := upd_same
    refine ⟨_, rfl, z, x, rfl, hz2, by omega, by omega, fun H3 g3 => ⟨_, _, rfl, rfl, by rw [say_S.1, S_length, S_length]; exact sz (by simp; omega), ?_⟩⟩
    refine ⟨_, rfl, z, x, rfl, hz2.mono g3, by omega, by omega, fun H4 g4 => ⟨_, rfl, n2, _, _, rfl, rfl, sz (n := ("size " : Str).length + _) (by rw [l1]; omega), _, _, rfl, rfl, sz (n := ("size " ++ Str.ofString (toString ((x.size : Nat) : Int)) : Str).length + (" depth " : Str).length) (by rw [la, l1, l2]; omega), ?_⟩⟩
    refine ⟨_, rfl, z, x, rfl, hz2.mono (g3.trans g4), by omega, fun H5 g5 => ⟨_, rfl, n4, _, _, rfl, rfl, sz (n := ("size " ++ Str.ofString (toString ((x.size : Nat) : Int)) ++ " depth " : Str).length + _) (by rw [la, la, l1, l2]; omega), sz (n := 2) (by decide), fun r nr => ?_⟩⟩
    have gg := g3.trans (g4.trans (g5.trans (same_new nr (.tup [.str ("say " ++ S x.text), .str (sizeText x)]))))
    refine q r (.str (sizeText x)) (.say x.text) (.txt (sizeText x) (some x)) z _ (fun c o hc y => gg _ _ (by rw [upd_ne hc]; exact g2 _ _ y)) (gg _ _ hst3) (Does.say_ok k _ _ (by omega) (readAll_text x (by omega)) (by omega)) (SayAt.mono gg hz2) (Say.text_blank x) (by simp [Cmd.line, Cmd.parts, TL.joinL]; omega) ?_ rfl
    rw [upd_same, say_S.1, S_cat]
    rfl
  have mid : ∀ (o4 o6 o7 : Option V) (z : V) (x : Say) (H2 : Hp), Same H H2 → SayAt H2 x z → x.size ≤ 12 →
      tSeq (tIfS (tTest (tOp rEq (tOp rMd (tOp rFd (tVar 3) (tC (.int 12))) (tC (.int 3))) (tC (.int 0))))
          (tAsg (tCl (spLPut 130) E0 (tCons (tCl (spLPut 130) E0 (tCons (tCl (spLPut 130) E0 (tCons (tVar 5) (tCons (tC (.str "p")) (tCons (tTup (tCons (tC (.str "no")) tNil)) tNil)))) (tCons (tC (.str "q")) (tCons (tTup (tCons (tC (.str "shown")) (tCons (tTup (tCons (tC (.str "no")) tNil)) tNil))) tNil)))) (tCons (tC (.str "r")) (tCons (tTup (tCons (tC (.str "no")) tNil)) tNil)))) (gName 5)) tNext)
        (tSeq (sDPut (tVar 0) (tC (.str "kept")) (tVar 5)) (tRet (tTup (tCons (tOp rAS (tC (.str "say ")) (tCl (spText 130) E0 (tCons (tVar 5) tNil))) (tCons (tOp rAS (tOp rAS (tOp rAS (tC (.str "size ")) (tCB rSI (tCons (tCl (spSize 130) E0 (tCons (tVar 5) tNil)) tNil))) (tC (.str " depth "))) (tCB rSI (tCons (tCl (spDepth 130) E0 (tCons (tVar 5) tNil)) tNil))) tNil)))))
        { nx := fun _ H' => Q .non H', rt := Q } [some (.ref st), some (.ref a), some (.int kk), some (.int cell), o4, some z, o6, o7] H2 := by
    intro o4 o6 o7 z x H2 g2 hz hsz
    refine ⟨_, rfl, _, _, rfl, rfl, ⟨by decide, by decide⟩, _, _, rfl, rfl, (by show (0:Int) < _; decide), rfl, _, rfl, ite2 (fun _ => ?_) fun _ => fin o4 o6 o7 z x H2 g2 hz (by omega)⟩
    have hht := Say.ht_lt x
    refine ⟨_, rfl, sz (n := 1) (by decide), fun p1 np1 => ?_⟩
    have g3 := same_new np1 (.tup [.str "no"])
    refine ⟨z, _, x, .no, .p, by rw [show Ltr.p.str = ("p" : Str) by decide +kernel], hz.mono g3, ⟨p1, rfl, upd_same⟩, by omega, fun z1 H3 g4 hz1 => ?_⟩
    have s1 := Say.put_size1 .p (t := .no) rfl x
    have h1 := Say.ht_lt (x.put .p .no)
    refine ⟨sz (n := 1) (by decide), fun p2 np2 => ⟨sz (n := 2) (by decide), fun p3 np3 => ?_⟩⟩
    have g5 := same_new np2 (.tup [.str "no"])
    have g6 := same_new np3 (.tup [.str "shown", .ref p2])
    refine ⟨z1, _, x.put .p .no, .shown .no, .q, by rw [show Ltr.q.str = ("q" : Str) by decide +kernel], hz1.mono (g5.trans g6), ⟨p3, _, rfl, upd_same, p2, rfl, g6 _ _ upd_same⟩, by omega, fun z2 H4 g7 hz2 => ?_⟩
    have s2 := Say.put_size .q (.shown .no) (x.put .p .no)
    have s2' : (Say.shown Say.no).size = 2 := rfl
    rw [s2'] at s2
    have h2 := Say.ht_lt ((x.put .p .no).put .q (.shown .no))
    refine ⟨sz (n := 1) (by decide), fun p4 np4 => ?_⟩
    have g8 := same_new np4 (.tup [.str "no"])
    refine ⟨z2, _, (x.put .p .no).put .q (.shown .no), .no, .r, by rw [show Ltr.r.str = ("r" : Str) by decide +kernel], hz2.mono g8, ⟨p4, rfl, upd_same⟩, by omega, fun z3 H5 g9 hz3 => ?_⟩
    have s3 := Say.put_size1 .r (t := .no) rfl ((x.put .p .no).put .q (.shown .no))
    exact fin o4 o6 o7 z3 _ H5 (g2.trans (g3.trans (g4.trans (g5.trans (g6.trans (g7.trans (g8.trans g9))))))) hz3 (by omega)
  refine ⟨sz (n := 3) (by decide), fun L nL => ?_⟩
  have gL := same_new nL (.lst [.str "pqr", .str "p", .str "q"])
  obtain ⟨y, hy, hi⟩ := atI_lt (l := [V.str "pqr", .str "p", .str "q"]) (i := cell / 4 % 3) (Int.emod_nonneg _ (by decide)) (Int.emod_lt_of_pos _ (by decide))
  obtain ⟨ls, rfl, lne, ll3⟩ := q_three hy
  refine ⟨_, rfl, _, _, rfl, rfl, ⟨by decide, by decide⟩, _, _, rfl, rfl, (by show (0:Int) < _; decide), L, _, _, _, rfl, rfl, SqL.of upd_same, hi, ?_⟩
  have m1 := Int.emod_nonneg (cell / 12) (b := 18) (by decide)
  have m2 := Int.emod_lt_of_pos (cell / 12) (b := 18) (by decide)
  refine ⟨_, rfl, _, rfl, _, _, rfl, rfl, (by show (0:Int) < _; decide), _, _, rfl, rfl, _, rfl, _, _, rfl, rfl, ⟨by decide, by decide⟩, _, _, rfl, rfl, (by show (0:Int) < _; decide), _, _, rfl, rfl, sz (n := 2) (by decide), fun m nm => ⟨_, rfl, ?_⟩⟩
  have gm := same_new nm (.tup [.int 12, .int 8])
  have g2 := gL.trans gm
  refine ⟨a, m, ns, 31 + kk % 7, 3 + cell / 12 % 18, 12, 8, ls, by push_cast; rfl, g2.seq hS, hn, by omega, by omega, by omega, upd_same, by decide, by decide, lne, ll3, fun z x H3 g3 hz hsz => ?_⟩
  have g23 := g2.trans g3
  refine ⟨_, rfl, st, _, rfl, get_free (g23 _ _ hst), b, rfl, ite2 (fun _ => ?_) fun _ => mid _ _ _ z x H3 g23 hz (by omega)⟩
  refine ⟨_, rfl, _, _, rfl, rfl, ⟨by decide, by decide⟩, _, 12, rfl, by decide, by decide, by decide, fun q2 z2 x2 c2 H4 g4 hq2 hz2 hs2 => ?_⟩
  exact ⟨q2, _, _, _, rfl, rfl, SqT.of hq2, at0, mid _ _ _ z2 x2 H4 (g23.trans g4) hz2 (by omega)⟩
end
end SD
namespace SD
open PySem PySem.Spec PyProof.Rows L2 SX
section
variable {P : Program} {w : World} {K : PySem.W.Frag} {mg : Str → Option Value} {base : Heap}
def spPutLine : Sp := fun vs H Q _ => ∃ (st a : Addr) (ns : List Int) (kk : Nat) (cell : Int) (v : V) (b : Bool) (s : Say), vs = [.ref st, .ref a, .int kk, .int cell] ∧ SqL K H a (ns.map V.int) ∧ ns.length ≤ 1000 ∧ kk ≤ 100 ∧ StAt H st v b ∧ SayAt H s v ∧ s.size ≤ 120 ∧ LineQ H Q st b (some s)
theorem cl_put_line (D : Df K mg "_law_put_line" "_law_put_line" "_law_put_line" s_law_put_line ["_law_state", "_law_script", "_law_k", "_law_cell"]) (T : Tx mg) (cB : Cl P w K mg base CX0 1 "_law_bad" spBad) (cG : Cl P w K mg base CX0 132 "_law_grown" (spGrown (K := K))) (cF : Cl P w K mg base CX0 14 "_law_free" (spFree 13))
    (cP : Cl P w K mg base CX0 131 "_law_put" (spLPut 130)) (cT : Cl P w K mg base CX0 131 "_law_text" (spText 130)) (cZ : Cl P w K mg base CX0 131 "_law_size" (spSize 130)) : Cl P w K mg base CX0 133 "_law_put_line" (spPutLine (K := K)) := by
  refine D.ok c_law_put_line (fun vs H Q E h => ?_) fun f cdv A outer s H vs Q E hr h => ?_
  · obtain ⟨st, a, ns, kk, cell, v, b, s, rfl, _⟩ := h
    rfl
  obtain ⟨st, a, ns, kk, cell, v, b, sy, rfl, hS, hn, hk, hst, hsy, hsz, q⟩ := h
  have hu := hu_of hr
  refine ⟨_, pss_cons (ps_set (i := 4) c_law_put_line.nd rfl (Or.inl rfl) (pe_ix ix_str pe_str (pe_op op_mod (pv 3) pe_int) (fun _ _ => rfl)))
    (pss_cons (ps_if (pt_cmpR op_eq (pe_op op_mod (pe_op op_fdiv (pv 3) pe_int) pe_int) pe_int (nomark _))
      (pss_cons (ps_asg (pe_c0 cB hr (by omega) (pa_cons (pe_op op_fdiv (pv 3) pe_int) pa_nil)) (pg_tup rfl (pgs_cons (pg_name (i := 9) c_law_put_line.nd rfl (Or.inl rfl)) (pgs_cons (pg_name (i := 10) c_law_put_line.nd rfl (Or.inl rfl)) pgs_nil))))
      (pss_one (ps_ret (pe_tup (pa_cons (pe_op op_add_str (pe_op op_add_str (pe_op op_add_str pe_str (pv 4)) pe_str) (pv 9)) (pa_cons (pe_lst (pa_cons pe_str (pa_cons (pv 10) pa_nil))) pa_nil)))))) pss_nil)
    (pss_cons (ps_set (i := 5) c_law_put_line.nd rfl (Or.inl rfl) (pe_c0 cG hr (by omega) (pa_cons (pv 1) (pa_cons (pe_op op_add pe_int (pe_op op_mod (pv 2) pe_int)) (pa_cons pe_int (pa_cons (pe_tup (pa_cons pe_int (pa_cons pe_int pa_nil))) (pa_cons pe_str pa_nil)))))))
    (pss_cons (ps_if (pt_val (pe_dget hu (pv 0) pe_str (fun _ _ => rfl))) (pss_one (ps_set (i := 5) c_law_put_line.nd rfl (Or.inl rfl) (pe_ix ix_tup (pe_c0 cF hr (by omega) (pa_cons (pe_op op_fdiv (pv 3) pe_int) (pa_cons pe_int pa_nil))) pe_int (fun _ _ => rfl)))) pss_nil)
    (pss_cons (ps_if (pt_cmpR op_eq (pe_op op_mod (pe_op op_fdiv (pv 3) pe_int) pe_int) pe_int (nomark _))
      (pss_cons (ps_for PassesOwn.never rfl (pi_range1 rfl T.range (pa_cons pe_int pa_nil)) (pg_name (i := 8) c_law_put_line.nd rfl (Or.inl rfl)) (pss_one (ps_set (i := 5) c_law_put_line.nd rfl (Or.inl rfl) (pe_tup (pa_cons pe_str (pa_cons (pv 5) (pa_cons (pv 5) pa_nil)))))))
      (pss_one (ps_set (i := 5) c_law_put_line.nd rfl (Or.inl rfl) (pe_c0 cP hr (by omega) (pa_cons (pv 5) (pa_cons pe_str (pa_cons (pe_tup (pa_cons pe_str (pa_cons pe_str pa_nil))) pa_nil))))))) pss_nil)
    (pss_cons (ps_set (i := 6) c_law_put_line.nd rfl (Or.inl rfl) (pe_c0 cP hr (by omega) (pa_cons (pe_dget hu (pv 0) pe_str (fun _ _ => rfl)) (pa_cons (pv 4) (pa_cons (pv 5) pa_nil)))))
    (pss_cons (ps_set (i := 7) c_law_put_line.nd rfl (Or.inl rfl) (pe_op op_add_str (pe_op op_add_str (pe_op op_add_str pe_str (pv 4)) pe_str) (pe_c0 cT hr (by omega) (pa_cons (pv 5) pa_nil))))
    (pss_cons (ps_if (pt_cmpR op_gt (pe_c0 cZ hr (by omega) (pa_cons (pv 6) pa_nil)) pe_int (nomark _)) (pss_one (ps_ret (pe_tup (pa_cons (pv 7) (pa_cons (pe_lst (pa_cons pe_str pa_nil)) pa_nil))))) pss_nil)
    (pss_cons (ps_dput hu (pv 0) pe_str (pv 6) rfl)
    (pss_one (ps_ret (pe_tup (pa_cons (pv 7) (pa_cons (pe_c0 cT hr (by omega) (pa_cons (pv 6) pa_nil)) pa_nil))))))))))))), ?_⟩
  obtain ⟨cd, hcd, hix⟩ := atI_lt (l := ("pqr" : Str).cps.toList) (i := cell % 3) (Int.emod_nonneg _ (by decide)) (by rw [strpqr.1]; exact Int.emod_lt_of_pos _ (by decide))
  have hc : ∃ c : Ltr, cd = c.code := by
    rw [strpqr.1] at hcd
    simp only [List.mem_cons, List.not_mem_nil, or_false] at hcd
    rcases hcd with rfl | rfl | rfl
    · exact ⟨.p, rfl⟩
    · exact ⟨.q, rfl⟩
    · exact ⟨.r, rfl⟩
  obtain ⟨c, rfl⟩ := hc
  have hht := Say.ht_lt sy
  refine ⟨_, rfl, _, _, rfl, rfl, (by show (0:Int) < _; decide), "pqr", _, _, rfl, rfl, sz (n := ("pqr" : Str).length) (by rw [strpqr.2.2]; decide), hix, ?_⟩
  have e5 : ("put " : Str) ++ S [c.code] = S ([112, 117, 116, 32] ++ [c.code]) := by rw [say_S.2.1, S_cat]
  have e6 : S ([112, 117, 116, 32] ++ [c.code]) ++ (" " : Str) = S ([112, 117, 116, 32] ++ [c.code] ++ [32]) := by rw [say_S.2.2.1, S_cat]
  have lsz : ∀ l : List Nat, l.length ≤ 40000 → (Cmd.put c l).line.length ≤ 50000 := fun l h => by simp [Cmd.line, Cmd.parts, TL.joinL]; omega
  have lin : ∀ l : List Nat, S ([112, 117, 116, 32] ++ [c.code] ++ [32]) ++ S l = S (Cmd.put c l).line := fun l => by rw [S_cat]; rfl
  refine ⟨_, rfl, _, _, rfl, rfl, ⟨by decide, by decide⟩, _, _, rfl, rfl, (by show (0:Int) < _; decide), rfl, _, rfl, ite2 (fun _ => ?_) fun _ => ?_⟩
  · refine ⟨_, rfl, _, _, rfl, rfl, ⟨by decide, by decide⟩, _, rfl, fun p q1 H1 hp g1 hq1 => ?_⟩
    obtain ⟨b1, b2, b3, b4⟩ := bads p hp
    have b5 : p.1.cps.size ≤ 20 := by simpa using b4
    refine ⟨q1, _, rfl, SqT.of hq1, rfl, _, _, rfl, _, _, rfl, rfl, ?_⟩
    refine ⟨_, rfl, _, _, rfl, rfl, ?_, _, _, rfl, rfl, ?_, _, rfl, _, _, rfl, rfl, ?_, _, rfl, sz (n := 2) (by decide), fun l nl => ⟨sz (n := 2) (by decide), fun r nr => ?_⟩⟩
    · rw [say_S.2.1]; exact sz (n := (S [112, 117, 116, 32]).length + (S [c.code]).length) (by rw [S_length, S_length]; simp)
    · rw [show (("put " : Str) ++ (⟨#[c.code]⟩ : Str)) = S ([112, 117, 116, 32] ++ [c.code]) from e5, say_S.2.2.1]; exact sz (n := (S ([112, 117, 116, 32] ++ [c.code])).length + (S [32]).length) (by rw [S_length, S_length]; simp)
    · rw [show (("put " : Str) ++ (⟨#[c.code]⟩ : Str)) = S ([112, 117, 116, 32] ++ [c.code]) from e5, e6, str_S p.1]; exact sz (n := (S ([112, 117, 116, 32] ++ [c.code] ++ [32])).length + (S p.1.cps.toList).length) (by rw [S_length, S_length]; simp; omega)
    have g2 := same_new nl (.lst [.str "saying", .int p.2])
    have g3 := same_new nr (.tup [.str ("put " ++ (⟨#[c.code]⟩ : Str) ++ " " ++ p.1), .ref l])
    have gg := g1.trans (g2.trans g3)
    refine q r (.ref l) (.put c p.1.cps.toList) (.bad (.saying p.2.toNat)) v _ (fun c o _ z => gg _ _ z) (gg _ _ hst) (Does.put_bad sy c _ _ (by omega) b1) (hsy.mono gg) b3 (lsz _ (by omega)) ?_ ⟨l, rfl, ?_⟩
    · rw [upd_same, show (("put " : Str) ++ (⟨#[c.code]⟩ : Str)) = S ([112, 117, 116, 32] ++ [c.code]) from e5, e6, ← lin, ← str_S p.1]
    · rw [g3 _ _ upd_same]
      show some (HO.lst [.str "saying", .int p.2]) = some (HO.lst [.str "saying", .int (p.2.toNat : Int)])
      rw [Int.toNat_of_nonneg b2]
  have fin : ∀ (o8 : Option V) (z : V) (x : Say) (H2 : Hp), Same H H2 → SayAt H2 x z → x.size ≤ 39 → x.ht ≤ 6 →
      tSeq (tAsg (tCl (spLPut 130) E0 (tCons (tDGet (tVar 0) (tC (.str "kept"))) (tCons (tVar 4) (tCons (tVar 5) tNil)))) (gName 6))
        (tSeq (tAsg (tOp rAS (tOp rAS (tOp rAS (tC (.str "put ")) (tVar 4)) (tC (.str " "))) (tCl (spText 130) E0 (tCons (tVar 5) tNil))) (gName 7))
        (tSeq (tIfS (tTest (tOp (rI0 fun i j => .bl (decide (j < i))) (tCl (spSize 130) E0 (tCons (tVar 6) tNil)) (tC (.int 120)))) (tRet (tTup (tCons (tVar 7) (tCons (tLst (tCons (tC (.str "many")) tNil)) tNil)))) tNext)
        (tSeq (sDPut (tVar 0) (tC (.str "kept")) (tVar 6)) (tRet (tTup (tCons (tVar 7) (tCons (tCl (spText 130) E0 (tCons (tVar 6) tNil)) tNil)))))))
        { nx := fun _ H' => Q .non H', rt := Q } [some (.ref st), some (.ref a), some (.int kk), some (.int cell), some (.str (S [c.code])), some z, none, none, o8, none, none] H2 := by
    intro o8 z x H2 g2 hz hxz hxh
    have hst2 : StAt H2 st v b := g2 _ _ hst
    have htl := (Say.text_len x).1
    have hp1 := Say.put_size c x sy
    have hp2 := Say.put_ht c x sy
    have hp3 : sy.size * x.size ≤ 120 * 39 := Nat.mul_le_mul hsz hxz
    refine ⟨_, rfl, st, v, rfl, get_kept hst2, _, rfl, _, rfl, v, z, sy, x, c, rfl, hsy.mono g2, hz, by omega, fun m H3 g3 hm => ?_⟩
    refine ⟨_, rfl, _, _, rfl, rfl, ?_, _, _, rfl, rfl, ?_, _, rfl, z, x, rfl, hz.mono g3, by omega, by omega, fun H4 g4 => ⟨_, _, rfl, rfl, ?_, ?_⟩⟩
    · rw [say_S.2.1]; exact sz (n := (S [112, 117, 116, 32]).length + (S [c.code]).length) (by rw [S_length, S_length]; simp)
    · rw [e5, say_S.2.2.1]; exact sz (n := (S ([112, 117, 116, 32] ++ [c.code])).length + (S [32]).length) (by rw [S_length, S_length]; simp)
    · rw [e5, e6]; exact sz (n := (S ([112, 117, 116, 32] ++ [c.code] ++ [32])).length + (S x.text).length) (by rw [S_length, S_length]; simp; omega)
    rw [e5, e6, lin]
    have g234 := g2.trans (g3.trans g4)
    have hm4 := hm.mono g4
    refine ⟨_, rfl, m, _, rfl, hm4, by omega, by omega, fun H5 g5 => ⟨_, _, rfl, rfl, _, rfl, ?_⟩⟩
    by_cases hbig : 120 < (sy.put c x).size
    · refine ite2 (fun _ => ?_) fun y => absurd (decide_eq_true (show (120 : Int) < ((sy.put c x).size : Int) by omega)) y
      refine ⟨_, rfl, sz (n := 1) (by decide), fun l nl => ⟨sz (n := 2) (by decide), fun r nr => ?_⟩⟩
      have g6 := same_new nl (.lst [.str "many"])
      have g7 := same_new nr (.tup [.str (S (Cmd.put c x.text).line), .ref l])
      have gg := g234.trans (g5.trans (g6.trans g7))
      exact q r (.ref l) (.put c x.text) (.bad .many) v _ (fun c o _ z => gg _ _ z) (gg _ _ hst) (Does.put_many sy c _ x (by omega) (readAll_text x (by omega)) (by omega) (by omega) hbig) (hsy.mono gg) (Say.text_blank x) (lsz _ (by omega)) upd_same ⟨l, rfl, g7 _ _ upd_same⟩
    · refine ite2 (fun y => absurd (of_decide_eq_true y) (by omega)) fun _ => ?_
      have hst5 : StAt H5 st v b := (g234.trans g5) _ _ hst
      refine ⟨_, rfl, _, rfl, st, _, rfl, put_dkept hst5, ?_⟩
      have hm5 := (hm4.mono g5).put_st (o := .dK [(Sum.inr "kept", m), (Sum.inr "free", .bl b)]) hst5
      have hst6 : StAt (upd H5 st (.dK [(Sum.inr "kept", m), (Sum.inr "free", .bl b)])) st m b := upd_same
      refine ⟨_, rfl, _, rfl, m, _, rfl, hm5, by omega, by omega, fun H6 g6 => ⟨sz (n := 2) (by decide), fun r nr => ?_⟩⟩
      have g7 := same_new nr (.tup [.str (S (Cmd.put c x.text).line), .str (S (sy.put c x).text)])
      have gg := g6.trans g7
      exact q r (.str (S (sy.put c x).text)) (.put c x.text) (.txt (S (sy.put c x).text) (some (sy.put c x))) m _ (fun c o hc y => gg _ _ (by rw [upd_ne hc]; exact (g234.trans g5) _ _ y)) (gg _ _ hst6) (Does.put_ok sy c _ x (by omega) (readAll_text x (by omega)) (by omega)) (SayAt.mono gg hm5) (Say.text_blank x) (lsz _ (by omega)) upd_same rfl
  have mid : ∀ (z : V) (x : Say) (H2 : Hp), Same H H2 → SayAt H2 x z → x.size ≤ 4 →
      tSeq (tIfS (tTest (tOp rEq (tOp rMd (tOp rFd (tVar 3) (tC (.int 3))) (tC (.int 4))) (tC (.int 2))))
          (tSeq (tFor (iRng1 (tCons (tC (.int 3)) tNil)) (gName 8) (tAsg (tTup (tCons (tC (.str "and")) (tCons (tVar 5) (tCons (tVar 5) tNil)))) (gName 5)))
            (tAsg (tCl (spLPut 130) E0 (tCons (tVar 5) (tCons (tC (.str "r")) (tCons (tTup (tCons (tC (.str "letter")) (tCons (tC (.str "p")) tNil))) tNil)))) (gName 5))) tNext)
        (tSeq (tAsg (tCl (spLPut 130) E0 (tCons (tDGet (tVar 0) (tC (.str "kept"))) (tCons (tVar 4) (tCons (tVar 5) tNil)))) (gName 6))
        (tSeq (tAsg (tOp rAS (tOp rAS (tOp rAS (tC (.str "put ")) (tVar 4)) (tC (.str " "))) (tCl (spText 130) E0 (tCons (tVar 5) tNil))) (gName 7))
        (tSeq (tIfS (tTest (tOp (rI0 fun i j => .bl (decide (j < i))) (tCl (spSize 130) E0 (tCons (tVar 6) tNil)) (tC (.int 120)))) (tRet (tTup (tCons (tVar 7) (tCons (tLst (tCons (tC (.str "many")) tNil)) tNil)))) tNext)
        (tSeq (sDPut (tVar 0) (tC (.str "kept")) (tVar 6)) (tRet (tTup (tCons (tVar 7) (tCons (tCl (spText 130) E0 (tCons (tVar 6) tNil)) tNil))))))))
        { nx := fun _ H' => Q .non H', rt := Q } [some (.ref st), some (.ref a), some (.int kk), some (.int cell), some (.str (S [c.code])), some z, none, none, none, none, none] H2 := by
    intro z x H2 g2 hz hxz
    have hxh := Say.ht_lt x
    refine ⟨_, rfl, _, _, rfl, rfl, ⟨by decide, by decide⟩, _, _, rfl, rfl, (by show (0:Int) < _; decide), rfl, _, rfl, ite2 (fun _ => ?_) fun _ => fin none z x H2 g2 hz (by omega) (by omega)⟩
    refine ⟨_, rfl, by decide, by decide, ?_⟩
    refine for_range (fun i σ H3 => ∃ (o8 : Option V) (z : V) (x : Say), σ = [some (.ref st), some (.ref a), some (.int kk), some (.int cell), some (.str (S [c.code])), some z, none, none, o8, none, none] ∧ Same H H3 ∧ SayAt H3 x z ∧ x.size + 1 ≤ 5 * 2 ^ i ∧ x.ht ≤ 3 + i) ⟨none, z, x, rfl, g2, hz, by omega, by omega⟩ (fun i σ H3 hi h => ?_) fun σ H3 h => ?_
    · obtain ⟨o8, z, x, rfl, g3, hz, h1, h2⟩ := h
      refine ⟨_, rfl, _, rfl, sz (n := 3) (by decide), fun p np => ?_⟩
      have g4 := same_new np (.tup [.str "and", z, z])
      refine ⟨_, _, .bin .conj x x, rfl, g3.trans g4, ⟨p, z, z, rfl, upd_same, hz.mono g4, hz.mono g4⟩, ?_, ?_⟩
      · simp only [Say.size]; rw [Nat.pow_succ]; omega
      · simp only [Say.ht]; omega
    · obtain ⟨o8, z, x, rfl, g3, hz, h1, h2⟩ := h
      have h1' : x.size + 1 ≤ 5 * 2 ^ 3 := h1
      have h2' : x.ht ≤ 3 + 3 := h2
      refine ⟨_, rfl, sz (n := 2) (by decide), fun p np => ?_⟩
      have g4 := same_new np (.tup [.str "letter", .str "p"])
      refine ⟨z, _, x, .letter .p, .r, by rw [show Ltr.r.str = ("r" : Str) by decide +kernel], hz.mono g4, ⟨p, rfl, by rw [show Ltr.p.str = ("p" : Str) by decide +kernel]; exact upd_same⟩, by omega, fun z2 H4 g5 hz2 => ?_⟩
      have s1 := Say.put_size1 .r (t := .letter .p) rfl x
      have s2 := Say.put_ht .r (.letter .p) x
      simp only [show (Say.letter Ltr.p).ht = 0 from rfl] at s2
      exact fin o8 z2 _ H4 (g3.trans (g4.trans g5)) hz2 (by omega) (by omega)
  refine ⟨_, rfl, _, rfl, _, _, rfl, rfl, (by show (0:Int) < _; decide), _, _, rfl, rfl, sz (n := 2) (by decide), fun m nm => ?_⟩
  have gm := same_new nm (.tup [.int 4, .int 2])
  refine ⟨a, m, ns, 40 + kk % 9, 4, 4, 2, [.p, .q, .r], by rw [← lsT3.1]; push_cast; rfl, gm.seq hS, hn, by omega, by omega, by omega, upd_same, by decide, by decide, by simp, by simp, fun z x H3 g3 hz hsz => ?_⟩
  have g23 := gm.trans g3
  refine ⟨_, rfl, st, _, rfl, get_free (g23 _ _ hst), b, rfl, ite2 (fun _ => ?_) fun _ => mid z x H3 g23 hz (by omega)⟩
  refine ⟨_, rfl, _, _, rfl, rfl, ⟨by decide, by decide⟩, _, 4, rfl, by decide, by decide, by decide, fun q2 z2 x2 c2 H4 g4 hq2 hz2 hs2 => ?_⟩
  exact ⟨q2, _, _, _, rfl, rfl, SqT.of hq2, at0, mid z2 x2 H4 (g23.trans g4) hz2 (by omega)⟩
end
end SD
namespace SD
open PySem PySem.Spec PyProof.Rows L2 SX
theorem orT (K : PySem.W.Frag) {X : Cx} {a b : Expr} {ta tb : TE} {rest : List Expr} {pos : Pos} (ha : PE X a ta) (hb : PE X (.BoolOp .Or (b :: rest) pos) tb) (h : X.K = K := by rfl) : PE X (.BoolOp .Or (a :: b :: rest) pos) (tOrT K ta tb) := by
  subst h
  exact pe_orT ha hb
theorem line_chain {ms : List Mark} (h : ms ≠ []) : (Cmd.chain ms).line = [99, 104, 97, 105, 110, 32] ++ TL.joinL [32] (ms.map mw) := by
  cases ms with
  | nil => exact absurd rfl h
  | cons m l => rfl
theorem mw_len (m : Mark) : (mw m).length ≤ 3 := by
  unfold mw
  split
  · simp
  · exact mt_len m
theorem joinL_len : ∀ l : List (List Nat), (∀ p ∈ l, p.length ≤ 3) → (TL.joinL [32] l).length ≤ 4 * l.length
  | [], _ => by simp [TL.joinL]
  | [p], h => by have := h p (by simp); simp [TL.joinL]; omega
  | p :: q :: r, h => by
    have h1 := joinL_len (q :: r) fun x hx => h x (List.mem_cons_of_mem _ hx)
    have h2 := h p (by simp)
    simp only [TL.joinL, List.length_append, List.length_cons, List.length_nil] at *
    omega
theorem mw_sum (ms : List Mark) : (((ms.map mw).map S).map (·.length)).sum ≤ 3 * ms.length := by
  induction ms with
  | nil => simp
  | cons m l ih =>
    have := mw_len m
    rw [List.map_cons, List.map_cons, List.map_cons, List.sum_cons, S_length, List.length_cons]
    omega
def wt : Ltr → Int | .p => 1 | .q => 2 | .r => 4
/-- the mark that a number tells -/
def markOf (cell : Int) : Mark := fun c => decide (V.int (cell / 8 / wt c % 2) = V.int 1)
section
variable {P : Program} {w : World} {K : PySem.W.Frag} {mg : Str → Option Value} {base : Heap}
def spChainLine : Sp := fun vs H Q _ => ∃ (st : Addr) (cell : Int) (v : V) (b : Bool) (s : Say), vs = [.ref st, .int cell] ∧ StAt H st v b ∧ SayAt H s v ∧ s.size ≤ 120 ∧ LineQ H Q st b (some s)
theorem cl_chain_line (D : Df K mg "_law_chain_line" "_law_chain_line" "_law_chain_line" s_law_chain_line ["_law_state", "_law_cell"]) (T : Tx mg) (cU : Cl P w K mg base CX0 1 "_law_ups" (spUps (K := K))) (cW : Cl P w K mg base CX0 131 "_law_worth" (spWorth (K := K) 130)) (cS : Cl P w K mg base CX0 1 "_law_signs" (spSigns (K := K))) :
    Cl P w K mg base CX0 132 "_law_chain_line" (spChainLine) := by
  refine D.ok c_law_chain_line (fun vs H Q E h => ?_) fun f cdv A outer s H vs Q E hr h => ?_
  · obtain ⟨st, cell, v, b, s, rfl, _⟩ := h
    rfl
  obtain ⟨st, cell, v, b, sy, rfl, hst, hsy, hsz, q⟩ := h
  have hu := hu_of hr
  refine ⟨_, pss_cons (ps_set (i := 2) c_law_chain_line.nd rfl (Or.inl rfl) (pe_lst pa_nil))
    (pss_cons (ps_for PassesOwn.never rfl (pi_range1 rfl T.range (pa_cons (pe_op op_add pe_int (pe_op op_mod (pv 1) pe_int)) pa_nil)) (pg_name (i := 3) c_law_chain_line.nd rfl (Or.inl rfl))
      (pss_cons (ps_if (pt_not (pt_val (pe_dget hu (pv 0) pe_str (fun _ _ => rfl)))) (pss_one (ps_set (i := 1) c_law_chain_line.nd rfl (Or.inr rfl) (pe_op op_mod (pe_op op_mul (pv 1) pe_int) pe_int))) pss_nil)
      (pss_cons (ps_expr (pe_bm PySem.F.plainAttrs_list PySem.F.slot_list_append PySem.F.type_list_append mt_append (pv 2) (pa_cons (pe_join pe_str (pe_lc (own := [("_law_j", 7)]) (g := gName 7) rfl c_law_chain_line.nd (pi_range1 rfl T.range (pa_cons pe_int pa_nil)) (blkOk_by (own := [("_law_j", 7)]) (N := ["_law_state", "_law_cell", "_law_marks", "_law_k", "_law_rooms", "_law_worth_here", "_law_one", "_law_j"]) (sc := defScope s_law_chain_line) (by decide +kernel))
          (fun _ _ _ _ _ => pg_name (i := 7) c_law_chain_line.nd rfl (Or.inl rfl)) (fun _ _ _ _ _ => pts_one (pt_cmpR op_eq (pe_op op_mod (pe_op op_fdiv (pe_op op_fdiv (pv 1) pe_int) (pe_ix (ixL K) (pe_lst (pa_cons pe_int (pa_cons pe_int (pa_cons pe_int pa_nil)))) (pv 7) (fun _ _ => rfl))) pe_int) pe_int (nomark _))) (fun _ _ _ _ _ => pe_ix ix_str pe_str (pv 7) (fun _ _ => rfl)))) pa_nil)))
      (pss_one (ps_set (i := 1) c_law_chain_line.nd rfl (Or.inr rfl) (pe_op op_fdiv (pv 1) pe_int))))))
    (pss_cons (ps_setLc (i := 4) (own := [("_law_k", 3), ("_law_one", 6)]) rfl c_law_chain_line.nd rfl rfl rfl (pi_enum rfl T.enumerate (pa_cons (pv 2) pa_nil)) (blkOk_by (own := [("_law_k", 3), ("_law_one", 6)]) (N := ["_law_state", "_law_cell", "_law_marks", "_law_k", "_law_rooms", "_law_worth_here", "_law_one", "_law_j"]) (sc := defScope s_law_chain_line) (by decide +kernel))
        (fun _ _ _ _ _ => pgT K (n := 2) rfl (pgs_cons (pg_name (i := 3) c_law_chain_line.nd rfl (Or.inl rfl)) (pgs_cons (pg_name (i := 6) c_law_chain_line.nd rfl (Or.inl rfl)) pgs_nil))) (fun _ _ _ _ _ => pts_nil) (fun _ _ _ _ _ => pe_tup (pa_cons (pe_op op_sub (pv 3) pe_int) (pa_cons (pv 6) pa_nil))))
    (pss_cons (ps_set (i := 5) c_law_chain_line.nd rfl (Or.inl rfl) (pe_c0 cW hr (by omega) (pa_cons (pv 4) (pa_cons (pe_c0 cU hr (by omega) (pa_cons (pv 4) pa_nil)) (pa_cons (pe_dget hu (pv 0) pe_str (fun _ _ => rfl)) pa_nil)))))
    (pss_one (ps_ret (pe_tup (pa_cons (pe_op op_add_str pe_str (pe_join pe_str (pe_lc (own := [("_law_one", 6)]) (g := gName 6) rfl c_law_chain_line.nd (pi_list (pv 2)) (blkOk_by (own := [("_law_one", 6)]) (N := ["_law_state", "_law_cell", "_law_marks", "_law_k", "_law_rooms", "_law_worth_here", "_law_one", "_law_j"]) (sc := defScope s_law_chain_line) (by decide +kernel))
          (fun _ _ _ _ _ => pg_name (i := 6) c_law_chain_line.nd rfl (Or.inl rfl)) (fun _ _ _ _ _ => pts_nil) (fun _ _ _ _ _ => orT K (pv 6) (pe_one pe_str))))) (pa_cons (pe_c0 cS hr (by omega) (pa_cons (pv 5) pa_nil)) pa_nil)))))))), ?_⟩
  have hht := Say.ht_lt sy
  refine ⟨sz (n := 0) (by decide), fun L nL => ?_⟩
  have g0 := same_new nL (.lst [])
  have m1 := Int.emod_nonneg cell (b := 8) (by decide)
  have m2 := Int.emod_lt_of_pos cell (b := 8) (by decide)
  have stL : st ≠ L := (ne_of_none hst nL)
  refine ⟨_, rfl, _, _, rfl, rfl, (by show (0:Int) < _; decide), _, _, rfl, rfl, _, rfl, by omega, by omega, ?_⟩
  refine for_range (fun i σ H2 => ∃ (cc : Int) (o3 : Option V) (ms : List Mark), σ = [some (.ref st), some (.int cc), some (.ref L), o3, none, none, none, none] ∧ Exc L H H2 ∧ H2 L = some (.lst (ms.map fun m => V.str (S (mt m)))) ∧ ms.length = i) ⟨cell, none, [], rfl, fun c o _ z => g0 _ _ z, upd_same, rfl⟩ (fun i σ H2 hi h => ?_) fun σ H2 h => ?_
  · obtain ⟨cc, o3, ms, rfl, ex, hL, hml⟩ := h
    have hst2 : StAt H2 st v b := ex _ _ stL hst
    have hi8 : i < 8 := by omega
    have step : ∀ (bk : L2.St → Hp → Prop) (cc : Int), tSeq (tDrop (tBM K "list" rAppend (tVar 2) (tCons (tM1 (fun x xs H Q => ∃ a p, ∃ ys : List Str, x = .str a ∧ xs = [.ref p] ∧ (SqL K H p (ys.map V.str) ∨ SqT K H p (ys.map V.str)) ∧ (ys.map (·.length)).sum + ys.length * a.length ≤ 16777216 ∧ Q (.str (Txt.join a ys)) H) (tC (.str ""))
          (tLc (iRng1 (tCons (tC (.int 3)) tNil)) (gName 7) (tTest (tOp rEq (tOp rMd (tOp rFd (tOp rFd (tVar 1) (tC (.int 8))) (tOp (rIxL K) (tLst (tCons (tC (.int 1)) (tCons (tC (.int 2)) (tCons (tC (.int 4)) tNil)))) (tVar 7))) (tC (.int 2))) (tC (.int 1)))) (tOp rIxS (tC (.str "pqr")) (tVar 7)) [7])) tNil)))
        (tAsg (tOp rFd (tVar 1) (tC (.int 8))) (gName 1))
        { nx := fun σ H2 => ∃ (cc : Int) (o3 : Option V) (ms : List Mark), σ = [some (.ref st), some (.int cc), some (.ref L), o3, none, none, none, none] ∧ Exc L H H2 ∧ H2 L = some (.lst (ms.map fun m => V.str (S (mt m)))) ∧ ms.length = i + 1, rt := Q, bk := bk,
          ct := fun σ H2 => ∃ (cc : Int) (o3 : Option V) (ms : List Mark), σ = [some (.ref st), some (.int cc), some (.ref L), o3, none, none, none, none] ∧ Exc L H H2 ∧ H2 L = some (.lst (ms.map fun m => V.str (S (mt m)))) ∧ ms.length = i + 1 }
        [some (.ref st), some (.int cc), some (.ref L), some (.int (0 + (i : Nat))), none, none, none, none] H2 := by
      intro bk cc
      refine ⟨_, rfl, .inl ⟨rfl, _, SqL.of hL⟩, ⟨_, rfl⟩, _, rfl, by decide, by decide, fun D nD => ?_⟩
      refine lc_onW walk_range (as := [Ltr.p, .q, .r]) (fun c => markOf cc c) (fun c y _ => y = .str (S [c.code])) (fun _ _ => trivial) rfl (by decide) nD (fun _ _ _ _ _ _ _ h => h) (fun j c v' H3 H3' acc C C' hc hv s1 hD hC hC' => ?_) fun ys H3 s1 hD hy => ?_
      · rw [hv.1, hv.2]
        have hjc : ∃ jj : Nat, (0 : Int) + (j : Int) = (jj : Int) ∧ [V.int 1, .int 2, .int 4][jj]? = some (.int (wt c)) ∧ ("pqr" : Str).cps.toList[jj]? = some c.code ∧ 0 < wt c ∧ wt c < 5 := by
          rw [strpqr.1]
          match j, hc with
          | 0, hc => injection hc with hc; subst hc; exact ⟨0, by omega, rfl, rfl, by decide, by decide⟩
          | 1, hc => injection hc with hc; subst hc; exact ⟨1, by omega, rfl, rfl, by decide, by decide⟩
          | 2, hc => injection hc with hc; subst hc; exact ⟨2, by omega, rfl, rfl, by decide, by decide⟩
          | n + 3, hc => cases hc
        obtain ⟨jj, ej, w1, w2, w3, w4⟩ := hjc
        refine ⟨rfl, _, rfl, _, _, rfl, rfl, ⟨by decide, by decide⟩, sz (n := 3) (by decide), fun L2 nL2 => ?_⟩
        have g2 := same_new nL2 (.lst [.int 1, .int 2, .int 4])
        refine ⟨_, rfl, L2, _, _, _, rfl, rfl, SqL.of upd_same, (by rw [ej]; exact atI_nat w1), _, _, rfl, rfl, ⟨w3, by omega⟩, _, _, rfl, rfl, (by show (0:Int) < _; decide), rfl, _, rfl, ?_⟩
        refine ite2 (fun cb => ?_) fun cb => hC' (Bool.eq_false_iff.mpr cb) _ g2
        exact ⟨_, rfl, "pqr", _, c.code, rfl, rfl, sz (n := ("pqr" : Str).length) (by rw [strpqr.2.2]; decide), (by rw [ej]; exact atI_nat w2), hC cb _ _ g2 rfl⟩
      · have e : ys = (((mt (markOf cc)).map fun c => [c]).map S).map V.str := by
          rw [paired_eq (f := fun c : Ltr => V.str (S [c.code])) hy]
          show _ = ((((ltrsM (markOf cc)).map Ltr.code).map fun c => [c]).map S).map V.str
          rw [List.map_map, List.map_map, List.map_map]; rfl
        subst e
        have hm3 := mt_len (markOf cc)
        refine ⟨S [], D, _, by rw [← str01.2], rfl, .inl (SqL.of hD), by rw [sum_ones]; omega, ?_⟩
        rw [join_chars]
        have hL3 := s1 _ _ hL
        refine ⟨L, _, _, rfl, rfl, hL3, szml (by rw [List.length_map]; omega), _, rfl, _, _, rfl, rfl, ⟨by decide, by decide⟩, _, _, ms ++ [markOf cc], rfl, fun c o hc z => by rw [upd_ne hc]; exact s1 _ _ (ex _ _ hc z), ?_, by rw [List.length_append]; simp; omega⟩
        rw [upd_same, List.map_append]; rfl
    refine ⟨_, rfl, st, _, rfl, get_free hst2, b, rfl, ite2 (fun _ => ?_) fun _ => step _ cc⟩
    exact ⟨_, rfl, _, _, rfl, rfl, mulR (by decide), _, _, rfl, rfl, (by show (0:Int) < _; decide), step _ _⟩
  · obtain ⟨cc, o3, ms, rfl, ex, hL, hml⟩ := h
    have hne : ms ≠ [] := fun e => by rw [e] at hml; simp at hml; omega
    have hm8 : ms.length ≤ 8 := by omega
    have hst2 : StAt H2 st v b := ex _ _ stL hst
    have gS : Same H H2 := fun c o z => ex _ _ (ne_of_none z nL) z
    have hSL : SqL K H2 L (ms.map fun m => V.str (S (mt m))) := SqL.of hL
    refine ⟨_, rfl, L, _, rfl, hSL, fun D nD => ?_⟩
    refine lc_onW walk_enum (as := (List.range ms.length).zip ms) (fun _ => true) (fun km y H => RoomAt H km.1 km.2 y) (fun _ s1 => s1.seq hSL) (by rw [List.length_zip, List.length_range, Nat.min_self, List.length_map]) (by rw [List.length_zip, List.length_range]; omega) nD (fun km y H H' acc hD ex ⟨q, e, z⟩ => ⟨q, e, ex _ _ (ne_of z hD (by intro y; cases y)) z⟩) (fun j km v' H3 H3' acc C C' hb hv s1 hD hC _ => ?_) fun ys H3 s1 hD hy => ?_
    · obtain ⟨k', m⟩ := km
      rw [List.getElem?_zip_eq_some] at hb
      obtain ⟨hk', hm⟩ := hb
      have hj : j < ms.length := (List.getElem?_eq_some_iff.mp hm).1
      rw [List.getElem?_range hj] at hk'
      injection hk' with hk'
      subst hk'
      obtain ⟨tp, x, y, rfl, nT, rfl, hx, hy⟩ := hv
      injection hx with hx
      subst hx
      have e := map_at (f := fun m : Mark => V.str (S (mt m))) hm hy
      subst e
      have gT := same_new nT (.tup [.int (j : Nat), .str (S (mt m))])
      refine ⟨tp, _, rfl, SqT.of upd_same, rfl, _, _, rfl, _, _, rfl, rfl, rfl, q_yes _ _ ?_⟩
      exact ⟨_, rfl, _, _, rfl, rfl, _, rfl, sz (n := 2) (by decide), fun p np => hC rfl _ _ (gT.trans (same_new np _)) ⟨p, rfl, upd_same⟩⟩
    rw [filter_true] at hy
    have hyl := Paired.len hy
    rw [List.length_zip, List.length_range, Nat.min_self] at hyl
    have hR : RoomsAt H3 ms ys := ⟨hyl, fun k' m v' hm hv => by
      have hj : k' < ms.length := (List.getElem?_eq_some_iff.mp hm).1
      exact paired_get hy k' (k', m) v' (by rw [List.getElem?_zip_eq_some]; exact ⟨List.getElem?_range hj, hm⟩) hv⟩
    have hSD : SqL K H3 D ys := SqL.of hD
    refine ⟨_, rfl, _, rfl, D, ys, ms, rfl, hSD, hR, hne, by omega, fun p zs H4 g4 np hp hU => ?_⟩
    have gs4 := s1.trans g4
    refine ⟨_, rfl, st, v, rfl, get_kept (gs4 _ _ hst2), D, p, v, ys, zs, ms, sy, rfl, g4.seq hSD, hR.mono g4, by omega, SqL.of hp, hU, hsy.mono (gS.trans gs4), by omega, fun p2 H5 g5 np2 hp2 => ?_⟩
    have hwl := worthS_len ms sy
    refine ⟨⟨_, rfl⟩, _, rfl, L, rfl, ⟨_, (gs4.trans g5).seq hSL⟩, fun D2 nD2 => ?_⟩
    refine lc_on (as := ms) (fun _ => true) (fun m y _ => y = .str (S (mw m))) ((gs4.trans g5).seq hSL) (by rw [List.length_map]) (by omega) nD2 (fun _ _ _ _ _ _ _ h => h) (fun j m v' H6 acc C C' hm hv s6 hD6 hC _ => ?_) fun ys2 H6 s6 hD6 hy6 => ?_
    · have e := map_at (f := fun m : Mark => V.str (S (mt m))) hm hv
      subst e
      refine ⟨rfl, q_yes _ _ ⟨_, rfl, _, ⟨szm (n := (S (mt m)).length) (by rw [S_length]; have := mt_len m; omega), rfl⟩, ?_⟩⟩
      have hmw : (((S (mt m)).length : Int) != 0) = decide (mt m ≠ []) := by
        rw [S_length]
        cases mt m <;> simp
        omega
      rw [hmw]
      refine ite2 (fun cb => ?_) fun cb => ?_
      · exact hC rfl _ _ (Same.refl _) (by unfold mw; rw [if_neg (of_decide_eq_true cb)])
      · have : mt m = [] := by simpa using cb
        exact hC rfl _ _ (Same.refl _) (by unfold mw; rw [if_pos this, show ("-" : Str) = S [45] by decide +kernel])
    rw [filter_true] at hy6
    have e6 : ys2 = ((ms.map mw).map S).map V.str := by
      rw [paired_eq (f := fun m : Mark => V.str (S (mw m))) hy6, List.map_map, List.map_map]; rfl
    subst e6
    have hsum := mw_sum ms
    have hjl := joinL_len (ms.map mw) fun p hp => by obtain ⟨m, _, rfl⟩ := List.mem_map.mp hp; exact mw_len m
    rw [List.length_map] at hjl
    refine ⟨S [32], D2, _, by rw [← say_S.2.2.1], rfl, .inl (SqL.of hD6), by rw [List.length_map, List.length_map, show (S [32]).length = 1 from rfl]; omega, ?_⟩
    rw [join_S]
    refine ⟨_, _, rfl, rfl, by rw [say_S.2.2.2.1, S_length, S_length]; exact szm (by simp; omega), ?_⟩
    rw [say_S.2.2.2.1, S_cat, ← line_chain hne]
    refine ⟨_, rfl, p2, _, rfl, s6.seq (SqL.of hp2), by omega, fun H7 g7 => ⟨sz (n := 2) (by decide), fun r nr => ?_⟩⟩
    have gg := gs4.trans (g5.trans (s6.trans (g7.trans (same_new nr (.tup [.str (S (Cmd.chain ms).line), .str (S ((worthS ms sy).map sgn))])))))
    refine q r _ (.chain ms) (.txt (S ((worthS ms sy).map sgn)) (some sy)) v _ (fun c o _ z => gg _ _ (gS _ _ z)) (gg _ _ hst2) (Does.chain sy ms) (hsy.mono (gS.trans gg)) ⟨hne, by omega⟩ ?_ upd_same rfl
    rw [line_chain hne, List.length_append]
    simp
    omega
end
end SD
namespace SD
open PySem PySem.Spec PyProof.Rows L2 SX
theorem strs_dp {K : PySem.W.Frag} {H : Hp} : ∀ l : List Ltr, DpAll K H (l.map fun c => V.str c.str) (l.map fun c => PyData.str c.str)
  | [] => .nil
  | c :: l => .cons (.str _) (strs_dp l)
theorem strs_lay : ∀ l : List Ltr, PyData.canLayAll0 (l.map fun c => PyData.str c.str) = true
  | [] => by simp [PyData.canLayAll0]
  | c :: l => by simp [PyData.canLayAll0, PyData.canLay0, lstr_ok, strs_lay l]
theorem strs_depth : ∀ l : List Ltr, PyData.depthAll (l.map fun c => PyData.str c.str) ≤ 1
  | [] => by simp [PyData.depthAll]
  | c :: l => by have := strs_depth l; simp [PyData.depthAll, PyData.depth]; omega
section
variable {P : Program} {w : World} {K : PySem.W.Frag} {mg : Str → Option Value} {base : Heap}
def spRowLine : Sp := fun vs H Q _ => ∃ (st : Addr) (v : V) (b : Bool) (s : Say), vs = [.ref st] ∧ StAt H st v b ∧ SayAt H s v ∧ s.size ≤ 120 ∧ LineQ H Q st b (some s)
theorem cl_row_line (D : Df K mg "_law_row_line" "_law_row_line" "_law_row_line" s_law_row_line ["_law_state"]) (T : Tx mg) (cL : Cl P w K mg base CX0 132 "_law_letters" spLLet) (cD : Cl P w K mg base CX0 131 "_law_depth" (spDepth 130)) (cU : Cl P w K mg base CX0 1 "_law_ups" (spUps (K := K))) (cW : Cl P w K mg base CX0 131 "_law_worth" (spWorth (K := K) 130)) (cS : Cl P w K mg base CX0 1 "_law_signs" (spSigns (K := K))) :
    Cl P w K mg base CX0 133 "_law_row_line" (spRowLine) := by
  refine D.ok c_law_row_line (fun vs H Q E h => ?_) fun f cdv A outer s H vs Q E hr h => ?_
  · obtain ⟨st, v, b, s, rfl, _⟩ := h
    rfl
  obtain ⟨st, v, b, sy, rfl, hst, hsy, hsz, q⟩ := h
  have hu := hu_of hr
  refine ⟨_, pss_cons (ps_set (i := 1) c_law_row_line.nd rfl (Or.inl rfl) (pe_c0 cL hr (by omega) (pa_cons (pe_dget hu (pv 0) pe_str (fun _ _ => rfl)) pa_nil)))
    (pss_cons (ps_if (pt_cmpR (op_neDD hr) (pv 1) (pe_lst pa_nil) (nomark _)) (pss_one (ps_ret (pe_tup (pa_cons pe_str (pa_cons (pe_lst (pa_cons pe_str (pa_cons (pe_ix ix_list (pv 1) pe_int (fun _ _ => rfl)) pa_nil))) pa_nil))))) pss_nil)
    (pss_cons (ps_setLc (i := 2) (own := [("_law_k", 4)]) rfl c_law_row_line.nd rfl rfl rfl (pi_range1 rfl T.range (pa_cons (pe_op op_add (pe_c0 cD hr (by omega) (pa_cons (pe_dget hu (pv 0) pe_str (fun _ _ => rfl)) pa_nil)) pe_int) pa_nil)) (blkOk_by (own := [("_law_k", 4)]) (N := ["_law_state", "_law_letters_here", "_law_rooms", "_law_worth_here", "_law_k"]) (sc := defScope s_law_row_line) (by decide +kernel))
        (fun _ _ _ _ _ => pg_name (i := 4) c_law_row_line.nd rfl (Or.inl rfl)) (fun _ _ _ _ _ => pts_nil) (fun _ _ _ _ _ => pe_tup (pa_cons (pe_op op_sub (pv 4) pe_int) (pa_cons pe_str pa_nil))))
    (pss_cons (ps_set (i := 3) c_law_row_line.nd rfl (Or.inl rfl) (pe_c0 cW hr (by omega) (pa_cons (pv 2) (pa_cons (pe_c0 cU hr (by omega) (pa_cons (pv 2) pa_nil)) (pa_cons (pe_dget hu (pv 0) pe_str (fun _ _ => rfl)) pa_nil)))))
    (pss_one (ps_ret (pe_tup (pa_cons pe_str (pa_cons (pe_c0 cS hr (by omega) (pa_cons (pe_lstRev rfl rfl T.list rfl T.reversed (pv 3)) pa_nil)) pa_nil)))))))), ?_⟩
  have hht := Say.ht_lt sy
  have hdl := Say.depth_le sy
  refine ⟨_, rfl, st, v, rfl, get_kept hst, v, sy, rfl, hsy, by omega, by omega, fun a H1 g1 na ha => ?_⟩
  have hrow : S (Cmd.row).line = "row" := w_S.2.2.2.2.1
  refine ⟨_, rfl, sz (n := 0) (by decide), fun e0 ne0 => ?_⟩
  have g2 := same_new ne0 (.lst [])
  have g12 := g1.trans g2
  refine ⟨.list ((lets sy).map fun c => PyData.str c.str), .list [], .lst (SqL.of (g2 _ _ ha)) (strs_dp _), .lst (SqL.of upd_same) .nil, by simp [PyData.canLay0, strs_lay], by simp [PyData.canLay0, PyData.canLayAll0], by have := strs_depth (lets sy); simp [PyData.depth]; omega, _, rfl, ?_⟩
  cases hl : lets sy with
  | cons c r =>
    rw [hl] at ha
    have e : (!PyData.eqv (.list ((c :: r).map fun c => PyData.str c.str)) (.list [])) = true := by rw [List.map_cons, PyData.eqv, PyData.eqvAll]; rfl
    rw [e]
    refine iteT ?_
    refine ⟨_, rfl, a, _, _, _, rfl, rfl, SqL.of (g2 _ _ ha), at0, sz (n := 2) (by decide), fun l nl => ⟨sz (n := 2) (by decide), fun q1 nq => ?_⟩⟩
    have g3 := same_new nl (.lst [.str "letter", .str c.str])
    have g4 := same_new nq (.tup [.str "row", .ref l])
    have gg := g12.trans (g3.trans g4)
    exact q q1 (.ref l) .row (.bad (.letter c)) v _ (fun c o _ z => gg _ _ z) (gg _ _ hst) (Does.row_letter sy c r hl) (hsy.mono gg) trivial (by decide) (by rw [upd_same, hrow]) ⟨l, rfl, g4 _ _ upd_same⟩
  | nil =>
    rw [hl] at ha
    have e : (!PyData.eqv (.list (([] : List Ltr).map fun c => PyData.str c.str)) (.list [])) = false := by rw [List.map_nil, PyData.eqv, PyData.eqvAll]; rfl
    rw [e]
    refine ite2 (fun z => absurd z (by simp)) fun _ => ?_
    refine ⟨_, rfl, st, v, rfl, get_kept (g12 _ _ hst), v, sy, rfl, hsy.mono g12, by omega, fun H3 g3 => ⟨_, _, rfl, rfl, _, rfl, by omega, by omega, fun D nD => ?_⟩⟩
    have g123 := g12.trans g3
    have hn : (((sy.depth : Nat) : Int) + 1).toNat = sy.depth + 1 := by omega
    rw [hn]
    have hrl : (rowMs sy).length = sy.depth + 1 := by simp [rowMs]
    refine lc_onW walk_range (as := (List.range (rowMs sy).length).zip (rowMs sy)) (fun _ => true) (fun km y H => RoomAt H km.1 km.2 y) (fun _ _ => trivial) (by rw [List.length_zip, List.length_range, Nat.min_self, hrl]) (by rw [List.length_zip, List.length_range]; omega) nD (fun km y H H' acc hD ex ⟨q, e, z⟩ => ⟨q, e, ex _ _ (ne_of z hD (by intro y; cases y)) z⟩) (fun j km v' H4 H4' acc C C' hb hv s1 hD hC _ => ?_) fun ys H4 s1 hD hy => ?_
    · obtain ⟨k', m⟩ := km
      rw [List.getElem?_zip_eq_some] at hb
      obtain ⟨hk', hm⟩ := hb
      have hj : j < (rowMs sy).length := (List.getElem?_eq_some_iff.mp hm).1
      rw [List.getElem?_range hj] at hk'
      injection hk' with hk'
      subst hk'
      have em : m = noM := (List.mem_replicate.mp (List.mem_of_getElem? hm)).2
      subst em
      rw [hv.1, hv.2]
      refine ⟨rfl, q_yes _ _ ⟨_, rfl, _, _, rfl, rfl, sz (n := 2) (by decide), fun p np => hC rfl _ _ (same_new np _) ⟨p, rfl, ?_⟩⟩⟩
      rw [upd_same, mt_noM, ← str01.2]
      show some (HO.tup [.int (0 + (j : Int) - 1), .str ""]) = some (HO.tup [.int ((j : Int) - 1), .str ""])
      rw [Int.zero_add]
    rw [filter_true] at hy
    have hyl := Paired.len hy
    rw [List.length_zip, List.length_range, Nat.min_self] at hyl
    have hR : RoomsAt H4 (rowMs sy) ys := ⟨hyl, fun k' m v' hm hv => by
      have hj : k' < (rowMs sy).length := (List.getElem?_eq_some_iff.mp hm).1
      exact paired_get hy k' (k', m) v' (by rw [List.getElem?_zip_eq_some]; exact ⟨List.getElem?_range hj, hm⟩) hv⟩
    have hSD : SqL K H4 D ys := SqL.of hD
    refine ⟨_, rfl, _, rfl, D, ys, rowMs sy, rfl, hSD, hR, by simp [rowMs], by omega, fun p zs H5 g5 np hp hU => ?_⟩
    have gs5 := g123.trans (s1.trans g5)
    refine ⟨_, rfl, st, v, rfl, get_kept (gs5 _ _ hst), D, p, v, ys, zs, rowMs sy, sy, rfl, g5.seq hSD, hR.mono g5, by omega, SqL.of hp, hU, hsy.mono gs5, by omega, fun p2 H6 g6 np2 hp2 => ?_⟩
    have hwl := worthS_len (rowMs sy) sy
    refine ⟨_, rfl, p2, _, rfl, SqL.of hp2, fun p3 np3 => ?_⟩
    rw [← List.map_reverse]
    have g7 := same_new np3 (.lst ((worthS (rowMs sy) sy).reverse.map V.bl))
    refine ⟨p3, _, rfl, SqL.of upd_same, by rw [List.length_reverse]; omega, fun H8 g8 => ⟨sz (n := 2) (by decide), fun r nr => ?_⟩⟩
    have gg := gs5.trans (g6.trans (g7.trans (g8.trans (same_new nr (.tup [.str "row", .str (S ((worthS (rowMs sy) sy).reverse.map sgn))])))))
    exact q r _ .row (.txt (S ((worthS (rowMs sy) sy).reverse.map sgn)) (some sy)) v _ (fun c o _ z => gg _ _ z) (gg _ _ hst) (Does.row_ok sy hl) (hsy.mono gg) trivial (by decide) (by rw [upd_same, hrow]) rfl
end
end SD
namespace SD
open PySem PySem.Spec PyProof.Rows L2 SX
theorem crowd_one {s : Say} (h : 6 < many s) : Crowd [s] := ⟨lshown s, (lshown_ok s).1, h, fun t ht => ⟨(((lshown_ok s).2 t).mp ht).2, s, by simp, (((lshown_ok s).2 t).mp ht).1⟩⟩
theorem crowd_two {o : Op} {s t : Say} (h : 6 < many (.bin o s t)) : Crowd [s, t] := by
  refine ⟨lshown (.bin o s t), (lshown_ok _).1, h, fun u hu => ?_⟩
  obtain ⟨h1, h2⟩ := ((lshown_ok _).2 u).mp hu
  refine ⟨h2, ?_⟩
  simp only [Say.parts, List.mem_cons, List.mem_append] at h1
  rcases h1 with rfl | h1 | h1
  · cases h2
  · exact ⟨s, by simp, h1⟩
  · exact ⟨t, by simp, h1⟩
/-- the law's other saying -/
def otherS (s : Say) : Say := .shown (.bin .disj (.shown (.neg (.shown (.letter .r)))) (.shown (.bin .impl s .no)))
section
variable {P : Program} {w : World} {K : PySem.W.Frag} {mg : Str → Option Value} {base : Heap}
def spAskedLine : Sp := fun vs H Q _ => ∃ (st : Addr) (i : Int) (v : V) (b : Bool) (s : Say), vs = [.ref st, .int i] ∧ StAt H st v b ∧ SayAt H s v ∧ s.size ≤ 120 ∧ LineQ H Q st b (some s)
theorem cl_asked_line (D : Df K mg "_law_asked_line" "_law_asked_line" "_law_asked_line" s_law_asked_line ["_law_state", "_law_kind_here"]) (T : Tx mg) (cS : Cl P w K mg base CX0 131 "_law_shown" (spLShown 130)) (cT : Cl P w K mg base CX0 131 "_law_text" (spText 130)) (cO : Cl P w K mg base CX0 131 "_law_outside" (spOutside 130)) (cZ : Cl P w K mg base CX0 131 "_law_size" (spSize 130)) :
    Cl P w K mg base CX0 132 "_law_asked_line" (spAskedLine) := by
  refine D.ok c_law_asked_line (fun vs H Q E h => ?_) fun f cdv A outer s H vs Q E hr h => ?_
  · obtain ⟨st, i, v, b, s, rfl, _⟩ := h
    rfl
  obtain ⟨st, i, v, b, sy, rfl, hst, hsy, hsz, q⟩ := h
  have hu := hu_of hr
  refine ⟨_, pss_cons (ps_set (i := 2) c_law_asked_line.nd rfl (Or.inl rfl) (pe_dget hu (pv 0) pe_str (fun _ _ => rfl)))
    (pss_cons (ps_set (i := 3) c_law_asked_line.nd rfl (Or.inl rfl) (pe_callB call_len_seq rfl T.len PySem.boot_len (pa_cons (pe_c0 cS hr (by omega) (pa_cons (pv 2) pa_nil)) pa_nil)))
    (pss_cons (ps_if (PW.pt (pw_and (pt_cmpR op_eq (pv 1) pe_int (nomark _)) (pw_and1 (pt_cmpR op_gt (pv 3) pe_int (nomark _))))) (pss_one (ps_ret (pe_tup (pa_cons pe_str (pa_cons (pe_lst (pa_cons pe_str pa_nil)) pa_nil))))) pss_nil)
    (pss_cons (ps_if (PW.pt (pw_and (pt_cmpR op_eq (pv 1) pe_int (nomark _)) (pw_and1 (pt_cmpR op_lt (pv 3) pe_int (nomark _))))) (pss_one (ps_ret (pe_tup (pa_cons pe_str (pa_cons pe_non pa_nil))))) pss_nil)
    (pss_cons (ps_if (PW.pt (pw_and (pt_cmpR op_eq (pv 1) pe_int (nomark _)) (pw_and1 (pt_cmpR op_gt (pv 3) pe_int (nomark _))))) (pss_one (ps_ret (pe_tup (pa_cons pe_str (pa_cons (pe_lst (pa_cons pe_str pa_nil)) pa_nil))))) pss_nil)
    (pss_cons (ps_set (i := 4) c_law_asked_line.nd rfl (Or.inl rfl) (pe_tup (pa_cons pe_str (pa_cons (pe_tup (pa_cons pe_str (pa_cons (pe_tup (pa_cons pe_str (pa_cons (pe_tup (pa_cons pe_str (pa_cons (pe_tup (pa_cons pe_str (pa_cons (pe_tup (pa_cons pe_str (pa_cons pe_str pa_nil))) pa_nil))) pa_nil))) pa_nil)))
        (pa_cons (pe_tup (pa_cons pe_str (pa_cons (pe_tup (pa_cons pe_str (pa_cons (pv 2) (pa_cons (pe_tup (pa_cons pe_str pa_nil)) pa_nil)))) pa_nil))) pa_nil)))) pa_nil))))
    (pss_cons (ps_if (PW.pt (pw_and (pt_cmpR op_eq (pv 1) pe_int (nomark _)) (pw_and (pt_cmpR op_lt (pe_callB call_len_str rfl T.len PySem.boot_len (pa_cons (pe_c0 cT hr (by omega) (pa_cons (pv 4) pa_nil)) pa_nil)) pe_int (nomark _))
        (pw_and1 (pt_cmpR op_gt (pe_callB call_len_seq rfl T.len PySem.boot_len (pa_cons (pe_c0 cS hr (by omega) (pa_cons (pe_tup (pa_cons pe_str (pa_cons (pv 2) (pa_cons (pv 4) pa_nil)))) pa_nil)) pa_nil)) pe_int (nomark _))))))
      (pss_one (ps_ret (pe_tup (pa_cons (pe_op op_add_str pe_str (pe_c0 cT hr (by omega) (pa_cons (pv 4) pa_nil))) (pa_cons (pe_lst (pa_cons pe_str pa_nil)) pa_nil))))) pss_nil)
    (pss_cons (ps_if (pt_val (pe_c0 cO hr (by omega) (pa_cons (pv 2) pa_nil))) (pss_one (ps_ret (pe_tup (pa_cons pe_str (pa_cons (pe_lst (pa_cons pe_str pa_nil)) pa_nil))))) pss_nil)
    (pss_cons (ps_if (pt_cmpR op_gt (pe_c0 cZ hr (by omega) (pa_cons (pv 2) pa_nil)) pe_int (nomark _)) (pss_one (ps_ret (pe_tup (pa_cons pe_str (pa_cons (pe_lst (pa_cons pe_str pa_nil)) pa_nil))))) pss_nil)
    (pss_one (ps_ret (pe_tup (pa_cons pe_str (pa_cons (pe_lst (pa_cons pe_str (pa_cons pe_int pa_nil))) pa_nil))))))))))))), ?_⟩
  have hht := Say.ht_lt sy
  refine ⟨_, rfl, st, v, rfl, get_kept hst, _, rfl, v, sy, rfl, hsy, by omega, by omega, by omega, fun a ys H1 g1 na ha hys => ?_⟩
  have hyl : ys.length = many sy := (Paired.len hys).symm
  refine ⟨a, ys, rfl, .inl (SqL.of ha), ?_⟩
  rw [hyl]
  -- a plain refusal's line
  have refuse : ∀ {H2 : Hp} {σ : L2.St} (c : Cmd) (bd : Bad) (z : Str), Same H H2 → dueL bd = [.str z] → Does (some sy) c (.bad bd) → c.ok → c.line.length ≤ 50000 →
      tRet (tTup (tCons (tC (.str (S c.line))) (tCons (tLst (tCons (tC (.str z)) tNil)) tNil))) { nx := fun _ H' => Q .non H', rt := Q } σ H2 := fun {H2 σ} c bd z g2 ed hd ok hl => by
    refine ⟨sz (n := 1) (by decide), fun l nl => ⟨sz (n := 2) (by decide), fun r nr => ?_⟩⟩
    have g3 := same_new nl (.lst [.str z])
    have g4 := same_new nr (.tup [.str (S c.line), .ref l])
    have gg := g2.trans (g3.trans g4)
    exact q r (.ref l) c (.bad bd) v _ (fun c o _ z => gg _ _ z) (gg _ _ hst) hd (hsy.mono gg) ok hl upd_same ⟨l, rfl, by rw [ed]; exact g4 _ _ upd_same⟩
  have lk : S (Cmd.kinds).line = "kinds" := w_S.2.2.2.2.2.2.1
  have lj : S (Cmd.judge).line = "judge" := w_S.2.2.1
  have ls : S (Cmd.self).line = "self" := w_S.2.2.2.2.2.1
  -- behind the three first tests
  have rest : tSeq (tAsg (tTup (tCons (tC (.str "shown")) (tCons (tTup (tCons (tC (.str "or")) (tCons (tTup (tCons (tC (.str "shown")) (tCons (tTup (tCons (tC (.str "not")) (tCons (tTup (tCons (tC (.str "shown")) (tCons (tTup (tCons (tC (.str "letter")) (tCons (tC (.str "r")) tNil))) tNil))) tNil))) tNil)))
        (tCons (tTup (tCons (tC (.str "shown")) (tCons (tTup (tCons (tC (.str "if")) (tCons (tVar 2) (tCons (tTup (tCons (tC (.str "no")) tNil)) tNil)))) tNil))) tNil)))) tNil))) (gName 4))
      (tSeq (tIfS (tAnd (tTest (tOp rEq (tVar 1) (tC (.int 2)))) (tAnd (tTest (tOp (rI0 fun i j => .bl (decide (i < j))) (tCB (fun xs H Q => ∃ z, xs = [.str z] ∧ z.length ≤ sizeLine ∧ Q (.int z.length) H) (tCons (tCl (spText 130) E0 (tCons (tVar 4) tNil)) tNil)) (tC (.int 110))))
          (tTest (tOp (rI0 fun i j => .bl (decide (j < i))) (tCB (fun xs H Q => ∃ p ys, xs = [.ref p] ∧ (SqL K H p ys ∨ SqT K H p ys) ∧ Q (.int ys.length) H) (tCons (tCl (spLShown 130) E0 (tCons (tTup (tCons (tC (.str "and")) (tCons (tVar 2) (tCons (tVar 4) tNil)))) tNil)) tNil)) (tC (.int 6))))))
        (tRet (tTup (tCons (tOp rAS (tC (.str "alike ")) (tCl (spText 130) E0 (tCons (tVar 4) tNil))) (tCons (tLst (tCons (tC (.str "many")) tNil)) tNil)))) tNext)
      (tSeq (tIfS (tB (tCl (spOutside 130) E0 (tCons (tVar 2) tNil))) (tRet (tTup (tCons (tC (.str "self")) (tCons (tLst (tCons (tC (.str "outside")) tNil)) tNil)))) tNext)
      (tSeq (tIfS (tTest (tOp (rI0 fun i j => .bl (decide (j < i))) (tCl (spSize 130) E0 (tCons (tVar 2) tNil)) (tC (.int 10)))) (tRet (tTup (tCons (tC (.str "self")) (tCons (tLst (tCons (tC (.str "many")) tNil)) tNil)))) tNext)
      (tRet (tTup (tCons (tC (.str "alike (")) (tCons (tLst (tCons (tC (.str "saying")) (tCons (tC (.int 1)) tNil))) tNil)))))))
      { nx := fun _ H' => Q .non H', rt := Q } [some (.ref st), some (.int i), some v, some (.int (many sy)), none] H1 := by
    have n2 : ∀ x y : V, 2 ≤ sizeLine := fun _ _ => sz (by decide)
    refine ⟨sz (n := 2) (by decide), fun p1 np1 => ⟨sz (n := 2) (by decide), fun p2 np2 => ⟨sz (n := 2) (by decide), fun p3 np3 => ⟨sz (n := 2) (by decide), fun p4 np4 => ⟨_, rfl, sz (n := 1) (by decide), fun p5 np5 => ⟨sz (n := 3) (by decide), fun p6 np6 => ⟨sz (n := 2) (by decide), fun p7 np7 => ⟨sz (n := 3) (by decide), fun p8 np8 => ⟨sz (n := 2) (by decide), fun p9 np9 => ?_⟩⟩⟩⟩⟩⟩⟩⟩⟩
    have k1 := same_new np1 (.tup [.str "letter", .str "r"])
    have k2 := same_new np2 (.tup [.str "shown", .ref p1])
    have k3 := same_new np3 (.tup [.str "not", .ref p2])
    have k4 := same_new np4 (.tup [.str "shown", .ref p3])
    have k5 := same_new np5 (.tup [.str "no"])
    have k6 := same_new np6 (.tup [.str "if", v, .ref p5])
    have k7 := same_new np7 (.tup [.str "shown", .ref p6])
    have k8 := same_new np8 (.tup [.str "or", .ref p4, .ref p7])
    have k9 := same_new np9 (.tup [.str "shown", .ref p8])
    have g19 : Same H _ := g1.trans (k1.trans (k2.trans (k3.trans (k4.trans (k5.trans (k6.trans (k7.trans (k8.trans k9))))))))
    have ho' : ∀ {Hx : Hp}, Same H Hx → Hx p9 = some (.tup [.str "shown", .ref p8]) → Hx p8 = some (.tup [.str "or", .ref p4, .ref p7]) → Hx p4 = some (.tup [.str "shown", .ref p3]) → Hx p3 = some (.tup [.str "not", .ref p2]) → Hx p2 = some (.tup [.str "shown", .ref p1]) → Hx p1 = some (.tup [.str "letter", .str "r"]) →
        Hx p7 = some (.tup [.str "shown", .ref p6]) → Hx p6 = some (.tup [.str "if", v, .ref p5]) → Hx p5 = some (.tup [.str "no"]) → SayAt Hx (otherS sy) (.ref p9) := fun {Hx} g e9 e8 e4 e3 e2 e1 e7 e6 e5 =>
      ⟨p9, _, rfl, e9, p8, _, _, rfl, e8, ⟨p4, _, rfl, e4, p3, _, rfl, e3, p2, _, rfl, e2, p1, rfl, by rw [show Ltr.r.str = ("r" : Str) by decide +kernel]; exact e1⟩, ⟨p7, _, rfl, e7, p6, _, _, rfl, e6, hsy.mono g, p5, rfl, e5⟩⟩
    have ho := ho' g19 upd_same (k9 _ _ upd_same) ((k5.trans (k6.trans (k7.trans (k8.trans k9)))) _ _ upd_same) ((k4.trans (k5.trans (k6.trans (k7.trans (k8.trans k9))))) _ _ upd_same) ((k3.trans (k4.trans (k5.trans (k6.trans (k7.trans (k8.trans k9)))))) _ _ upd_same) ((k2.trans (k3.trans (k4.trans (k5.trans (k6.trans (k7.trans (k8.trans k9))))))) _ _ upd_same)
      ((k8.trans k9) _ _ upd_same) ((k7.trans (k8.trans k9)) _ _ upd_same) ((k6.trans (k7.trans (k8.trans k9))) _ _ upd_same)
    have hoz : (otherS sy).size ≤ 130 := by simp only [otherS, Say.size]; omega
    have hoh : (otherS sy).ht ≤ 123 := by simp only [otherS, Say.ht]; omega
    have late : ∀ {H2 : Hp} {σ : L2.St}, Same H H2 → σ[2]? = some (some v) →
        tSeq (tIfS (tB (tCl (spOutside 130) E0 (tCons (tVar 2) tNil))) (tRet (tTup (tCons (tC (.str "self")) (tCons (tLst (tCons (tC (.str "outside")) tNil)) tNil)))) tNext)
        (tSeq (tIfS (tTest (tOp (rI0 fun i j => .bl (decide (j < i))) (tCl (spSize 130) E0 (tCons (tVar 2) tNil)) (tC (.int 10)))) (tRet (tTup (tCons (tC (.str "self")) (tCons (tLst (tCons (tC (.str "many")) tNil)) tNil)))) tNext)
        (tRet (tTup (tCons (tC (.str "alike (")) (tCons (tLst (tCons (tC (.str "saying")) (tCons (tC (.int 1)) tNil))) tNil)))))
        { nx := fun _ H' => Q .non H', rt := Q } σ H2 := fun {H2 σ} g2 hσ => by
      refine ⟨_, hσ, v, sy, rfl, hsy.mono g2, by omega, fun H3 g3 => ⟨_, rfl, ite2 (fun c => ?_) fun c => ?_⟩⟩
      · rw [← ls]
        exact refuse .self .outside "outside" (g2.trans g3) rfl (Does.self_out sy c) trivial (by decide)
      have g23 := g2.trans g3
      refine ⟨_, hσ, v, sy, rfl, hsy.mono g23, by omega, by omega, fun H4 g4 => ⟨_, _, rfl, rfl, _, rfl, ite2 (fun c2 => ?_) fun c2 => ?_⟩⟩
      · rw [← ls]
        exact refuse .self .many "many" (g23.trans g4) rfl (Does.self_many sy (Bool.eq_false_iff.mpr c) (by have : (10 : Int) < (sy.size : Int) := of_decide_eq_true c2; omega)) trivial (by decide)
      refine ⟨sz (n := 2) (by decide), fun l nl => ⟨sz (n := 2) (by decide), fun r nr => ?_⟩⟩
      have g5 := same_new nl (.lst [.str "saying", .int 1])
      have g6 := same_new nr (.tup [.str "alike (", .ref l])
      have gg := g23.trans (g4.trans (g5.trans g6))
      exact q r (.ref l) (.alike [40]) (.bad (.saying 1)) v _ (fun c o _ z => gg _ _ z) (gg _ _ hst) (Does.alike_bad sy [40] 1 (by decide) (by decide +kernel)) (hsy.mono gg) (by show 32 ∉ [40]; decide) (by decide) (by rw [upd_same, show ("alike (" : Str) = S (Cmd.alike [40]).line by decide +kernel]) ⟨l, rfl, g6 _ _ upd_same⟩
    refine ⟨_, rfl, rfl, _, rfl, ite2 (fun _ => ?_) fun _ => ite2 (fun z => absurd z Bool.false_ne_true) fun _ => late g19 rfl⟩
    have hot := (Say.text_len (otherS sy)).1
    refine ⟨_, rfl, .ref p9, otherS sy, rfl, ho, by omega, by omega, fun H2 g2 => ⟨_, rfl, szm (n := (S (otherS sy).text).length) (by rw [S_length]; omega), _, _, rfl, rfl, _, rfl, ?_⟩⟩
    have g192 := g19.trans g2
    refine ite2 (fun _ => ?_) fun _ => ite2 (fun z => absurd z Bool.false_ne_true) fun _ => late g192 rfl
    refine ⟨_, rfl, _, rfl, sz (n := 3) (by decide), fun p np => ?_⟩
    have g3 := same_new np (.tup [.str "and", v, .ref p9])
    refine ⟨.ref p, .bin .conj sy (otherS sy), rfl, ⟨p, v, .ref p9, rfl, upd_same, hsy.mono (g192.trans g3), ho.mono (g2.trans g3)⟩, by simp only [Say.ht]; omega, by simp only [Say.ht]; omega, by simp only [Say.size]; omega, fun a2 ys2 H3 g4 na2 ha2 hys2 => ⟨a2, ys2, rfl, .inl (SqL.of ha2), _, _, rfl, rfl, _, rfl, ?_⟩⟩
    have hy2 : ys2.length = many (.bin .conj sy (otherS sy)) := (Paired.len hys2).symm
    have g1924 := g192.trans (g3.trans g4)
    refine ite2 (fun c6 => ?_) fun _ => ?_
    · have c6' : (6 : Int) < (ys2.length : Int) := of_decide_eq_true c6
      refine ⟨_, rfl, .ref p9, otherS sy, rfl, ho.mono (g2.trans (g3.trans g4)), by omega, by omega, fun H4 g5 => ⟨_, _, rfl, rfl, by rw [say_S.2.2.2.2, S_length, S_length]; exact szm (by simp; omega), sz (n := 1) (by decide), fun l nl => ⟨sz (n := 2) (by decide), fun r nr => ?_⟩⟩⟩
      have g6 := same_new nl (.lst [.str "many"])
      have g7 := same_new nr (.tup [.str ("alike " ++ S (otherS sy).text), .ref l])
      have gg := g1924.trans (g5.trans (g6.trans g7))
      refine q r (.ref l) (.alike (otherS sy).text) (.bad .many) v _ (fun c o _ z => gg _ _ z) (gg _ _ hst) (Does.alike_many sy _ (otherS sy) (by omega) (readAll_text _ (by omega)) (by omega) (by omega) (crowd_two (o := .conj) (by omega))) (hsy.mono gg) (Say.text_blank _) ?_ ?_ ⟨l, rfl, g7 _ _ upd_same⟩
      · simp [Cmd.line, Cmd.parts, TL.joinL]; omega
      · rw [upd_same, say_S.2.2.2.2, S_cat]; rfl
    · first
      | exact late g1924 rfl
      | exact ite2 (fun z => absurd z Bool.false_ne_true) fun _ => late g1924 rfl
  have third : ∀ cont : TS, cont { nx := fun _ H' => Q .non H', rt := Q } [some (.ref st), some (.int i), some v, some (.int (many sy)), none] H1 → tSeq (tIfS (tAnd (tTest (tOp rEq (tVar 1) (tC (.int 1)))) (tTest (tOp (rI0 fun i j => .bl (decide (j < i))) (tVar 3) (tC (.int 6))))) (tRet (tTup (tCons (tC (.str "judge")) (tCons (tLst (tCons (tC (.str "many")) tNil)) tNil)))) tNext) cont
      { nx := fun _ H' => Q .non H', rt := Q } [some (.ref st), some (.int i), some v, some (.int (many sy)), none] H1 := by
    intro cont hcont
    refine ⟨_, rfl, rfl, _, rfl, ite2 (fun _ => ?_) fun _ => ite2 (fun z => absurd z Bool.false_ne_true) fun _ => hcont⟩
    refine ⟨_, rfl, _, _, rfl, rfl, _, rfl, ite2 (fun c => ?_) fun _ => ?_⟩
    · have c' : (6 : Int) < (many sy : Int) := of_decide_eq_true c
      rw [← lj]
      exact refuse .judge .many "many" g1 rfl (Does.judge sy (crowd_one (by omega))) trivial (by decide)
    · first
      | exact hcont
      | exact ite2 (fun z => absurd z Bool.false_ne_true) fun _ => hcont
  have second : ∀ cont : TS, cont { nx := fun _ H' => Q .non H', rt := Q } [some (.ref st), some (.int i), some v, some (.int (many sy)), none] H1 → tSeq (tIfS (tAnd (tTest (tOp rEq (tVar 1) (tC (.int 0)))) (tTest (tOp (rI0 fun i j => .bl (decide (i < j))) (tVar 3) (tC (.int 4))))) (tRet (tTup (tCons (tC (.str "kinds")) (tCons (tC .non) tNil)))) tNext) cont
      { nx := fun _ H' => Q .non H', rt := Q } [some (.ref st), some (.int i), some v, some (.int (many sy)), none] H1 := by
    intro cont hcont
    refine ⟨_, rfl, rfl, _, rfl, ite2 (fun _ => ?_) fun _ => ite2 (fun z => absurd z Bool.false_ne_true) fun _ => hcont⟩
    refine ⟨_, rfl, _, _, rfl, rfl, _, rfl, ite2 (fun c => ?_) fun _ => ?_⟩
    · have c' : (many sy : Int) < (4 : Int) := of_decide_eq_true c
      refine ⟨sz (n := 2) (by decide), fun r nr => ?_⟩
      have g4 := same_new nr (.tup [.str "kinds", .non])
      have gg := g1.trans g4
      exact q r .non .kinds .any v _ (fun c o _ z => gg _ _ z) (gg _ _ hst) (Does.kinds_any sy (by omega)) (hsy.mono gg) trivial (by decide) (by rw [upd_same, lk]) rfl
    · first
      | exact hcont
      | exact ite2 (fun z => absurd z Bool.false_ne_true) fun _ => hcont
  refine ⟨_, rfl, rfl, _, rfl, ite2 (fun _ => ?_) fun _ => ite2 (fun z => absurd z Bool.false_ne_true) fun _ => second _ (third _ rest)⟩
  refine ⟨_, rfl, _, _, rfl, rfl, _, rfl, ite2 (fun c => ?_) fun _ => ?_⟩
  · have c' : (5 : Int) < (many sy : Int) := of_decide_eq_true c
    rw [← lk]
    exact refuse .kinds .many "many" g1 rfl (Does.kinds_many sy (by omega)) trivial (by decide)
  · first
    | exact second _ (third _ rest)
    | exact ite2 (fun z => absurd z Bool.false_ne_true) fun _ => second _ (third _ rest)
end
end SD
namespace SD
open PySem PySem.Spec PyProof.Rows L2 SX
/-- neither a list nor a tuple nor frozen nor a table nor foreign -/
def Plain (o : HO) : Prop := (∀ xs, o ≠ .lst xs) ∧ (∀ xs, o ≠ .tup xs) ∧ (∀ ob u, o ≠ .frz ob u) ∧ (∀ ps, o ≠ .tbl ps) ∧ ∀ φ, o ≠ .ext φ
theorem plain_dK {kvs : List (Key × V)} : Plain (.dK kvs) := ⟨fun _ z => (by cases z), fun _ z => (by cases z), fun _ _ z => (by cases z), fun _ z => (by cases z), fun _ z => (by cases z)⟩
theorem plain_ins {C dx : Addr} {fs : List (Str × V)} : Plain (.ins C dx fs) := ⟨fun _ z => (by cases z), fun _ z => (by cases z), fun _ _ z => (by cases z), fun _ z => (by cases z), fun _ z => (by cases z)⟩
section
variable {D : Addr} {H H' : Hp} {o : HO}
theorem exc_get {a : Addr} {u : HO} (hD : H D = some o) (g : Exc D H H') (h : H a = some u) (n : o ≠ u) : H' a = some u := by
  refine g _ _ (fun e => ?_) h
  rw [e, hD] at h
  exact n (Option.some.inj h)
theorem SayAt.excN (hD : H D = some o) (p : Plain o) (g : Exc D H H') : ∀ {s : Say} {v : V}, SayAt H s v → SayAt H' s v := by
  have t : ∀ {a : Addr} {ys : List V}, H a = some (.tup ys) → H' a = some (.tup ys) := fun {a ys} h => exc_get hD g h (p.2.1 _)
  intro s
  induction s with
  | no => rintro v ⟨a, e, h⟩; exact ⟨a, e, t h⟩
  | letter c => rintro v ⟨a, e, h⟩; exact ⟨a, e, t h⟩
  | neg x ih => rintro v ⟨a, w, e, h, h1⟩; exact ⟨a, w, e, t h, ih h1⟩
  | shown x ih => rintro v ⟨a, w, e, h, h1⟩; exact ⟨a, w, e, t h, ih h1⟩
  | bin o x y ih1 ih2 => rintro v ⟨a, w, u, e, h, h1, h2⟩; exact ⟨a, w, u, e, t h, ih1 h1, ih2 h2⟩
theorem KeptAt.excN {k : Option Say} {v : V} (hD : H D = some o) (p : Plain o) (g : Exc D H H') (h : KeptAt H k v) : KeptAt H' k v := by
  cases k with
  | none => exact h
  | some s => exact SayAt.excN hD p g h
theorem seq_exc {K : PySem.W.Frag} {a : Addr} {xs : List V} (hD : H D = some o) (p : Plain o) (g : Exc D H H') (h : SqL K H a xs) : SqL K H' a xs := by
  rcases h with h | h
  · rcases h with h | ⟨ob, h⟩
    · exact .inl (.inl (exc_get hD g h (p.1 _)))
    · exact .inl (.inr ⟨ob, exc_get hD g h (p.2.2.1 _ _)⟩)
  · exact .inr h
theorem tab_exc {pT : Addr} {qT : Str} (hD : H D = some o) (p : Plain o) (g : Exc D H H') (h : LamX.TabS H pT qT) : LamX.TabS H' pT qT := by
  obtain ⟨ps, h1, h2, h3⟩ := h
  refine ⟨ps, exc_get hD g h1 (p.2.2.2.1 _), h2, fun pos cv e => ?_⟩
  obtain ⟨c, e1, e2⟩ := h3 pos cv e
  exact ⟨c, e1, exc_get hD g e2 (p.2.2.2.2 _)⟩
theorem seq_extN {K : PySem.W.Frag} {a : Addr} {xs : List V} (g : LamX.ExtN H H') (h : SqL K H a xs) : SqL K H' a xs := by
  rcases h with h | h
  · rcases h with h | ⟨ob, h⟩
    · exact .inl (.inl (g _ _ h fun _ z => by cases z))
    · exact .inl (.inr ⟨ob, g _ _ h fun _ z => (by cases z)⟩)
  · exact .inr h
theorem KeptAt.extN {k : Option Say} {v : V} (g : LamX.ExtN H H') (h : KeptAt H k v) : KeptAt H' k v := by
  cases k with
  | none => exact h
  | some s => exact SayAt.extN g h
end
theorem does_kept {k : Option Say} {c : Cmd} {r : Res} (h : Does k c r) (hk : ∀ s, k = some s → s.size ≤ 120) : ∀ s, r.kept k = some s → s.size ≤ 120 := by
  intro s e
  cases h <;> first | exact hk s e | (simp only [Res.kept] at e; injection e with e; subst e; first | assumption | exact hk _ rfl)
/-- the lines where nothing is kept -/
theorem none_lines : ∀ y ∈ [V.str "judge", .str "row", .str "put p (", .str "chain -", .str "kinds", .str "self", .str "alike ~"], ∃ c : Cmd, y = .str (S c.line) ∧ c.ok ∧ (∀ l, c ≠ .say l) ∧ c.line.length ≤ 50000 := by
  intro y hy
  simp only [List.mem_cons, List.not_mem_nil, or_false] at hy
  rcases hy with rfl | rfl | rfl | rfl | rfl | rfl | rfl
  · exact ⟨.judge, by rw [show ("judge" : Str) = S (Cmd.judge).line by decide +kernel], trivial, fun l z => (by cases z), by decide⟩
  · exact ⟨.row, by rw [show ("row" : Str) = S (Cmd.row).line by decide +kernel], trivial, fun l z => (by cases z), by decide⟩
  · exact ⟨.put .p [40], by rw [show ("put p (" : Str) = S (Cmd.put .p [40]).line by decide +kernel], by show 32 ∉ [40]; decide, fun l z => (by cases z), by decide⟩
  · exact ⟨.chain [noM], by rw [show ("chain -" : Str) = S (Cmd.chain [noM]).line by decide +kernel], ⟨by simp, by simp⟩, fun l z => (by cases z), by decide⟩
  · exact ⟨.kinds, by rw [show ("kinds" : Str) = S (Cmd.kinds).line by decide +kernel], trivial, fun l z => (by cases z), by decide⟩
  · exact ⟨.self, by rw [show ("self" : Str) = S (Cmd.self).line by decide +kernel], trivial, fun l z => (by cases z), by decide⟩
  · exact ⟨.alike [126], by rw [show ("alike ~" : Str) = S (Cmd.alike [126]).line by decide +kernel], by show 32 ∉ [126]; decide, fun l z => (by cases z), by decide⟩
/-- the due list as data -/
def dueD : Bad → List PyData | .nothing => [.str "nothing"] | .saying n => [.str "saying", .int n] | .letter c => [.str "letter", .str c.str] | .many => [.str "many"] | .outside => [.str "outside"]
theorem due_dp {K : PySem.W.Frag} {H : Hp} : ∀ b : Bad, DpAll K H (dueL b) (dueD b)
  | .nothing => .cons (.str _) .nil
  | .saying n => .cons (.str _) (.cons (.int _) .nil)
  | .letter c => .cons (.str _) (.cons (.str _) .nil)
  | .many => .cons (.str _) .nil
  | .outside => .cons (.str _) .nil
theorem due_ok : PyData.strOk "nothing" = true ∧ PyData.strOk "saying" = true ∧ PyData.strOk "letter" = true ∧ PyData.strOk "many" = true ∧ PyData.strOk "outside" = true := by decide +kernel
theorem due_lay (b : Bad) : (PyData.list (dueD b)).canLay0 = true := by
  obtain ⟨h1, h2, h3, h4, h5⟩ := due_ok
  cases b <;> simp [dueD, PyData.canLay0, PyData.canLayAll0, h1, h2, h3, h4, h5, lstr_ok]
theorem due_depth (b : Bad) : (PyData.list (dueD b)).depth ≤ 3 := by cases b <;> simp [dueD, PyData.depth, PyData.depthAll]
theorem due_eq (b : Bad) : PyData.eqv (.list (dueD b)) (.list (dueD b)) = true := by cases b <;> simp [dueD, PyData.eqv, PyData.eqvAll]
section
variable {X : Cx}
/-- != of scalars, or of data -/
def rNeB (K : PySem.W.Frag) : R2 := fun x y H Q => rNe x y H Q ∨ rNeDD K x y H Q
theorem op_neB {k : Nat} (hr : Room k X.A) : OpR X (compareOp .NotEq) (rNeB X.K) := by
  intro pins s σ H x y v u Q I rx ry h
  rcases h with h | h
  · exact op_ne pins s σ H x y v u Q I rx ry h
  · exact op_neDD hr pins s σ H x y v u Q I rx ry h
end
section
variable {P : Program} {w : World} {K : PySem.W.Frag} {mg : Str → Option Value} {base : Heap}
def spDeskI : Sp := fun vs H Q _ => ∃ (x dx : Addr), vs = [.ref x] ∧ H x = some (.ins (He.ga K "Desk") dx []) ∧ Q .non (upd H x (.ins (He.ga K "Desk") dx [("kept", .non)]))
theorem ca_deskI {f : Addr} (D : Da K "__init__" "Desk.__init__" s_Desk_init ["self"] f) (C : DeskC K) : Ca P w K mg base CX0 1 f (spDeskI (K := K)) := by
  refine D.ok c_Desk_init (fun vs H Q E h => ?_) fun cdv A outer s H vs Q E hr h => ?_
  · obtain ⟨x, dx, rfl, _⟩ := h
    rfl
  obtain ⟨x, dx, rfl, hx, k⟩ := h
  exact ⟨_, pss_one (ps_fld (pv 0) pe_non rfl), _, rfl, x, _, dx, [], rfl, hx, C.c, C.n, by decide, k⟩
/-- what stands between two lines -/
structure LS (K : PySem.W.Frag) (H : Hp) (a : Addr) (ns : List Int) (sl : Addr) (cs : List Int) (st x dx : Addr) (b : Bool) (k : Option Say) (v dv : V) (pT : Addr) (qT : Str) : Prop where
  scr : SqL K H a (ns.map V.int)
  cel : SqL K H sl (cs.map V.int)
  st : StAt H st v b
  dk : DeskAt K H x dx dv
  k1 : KeptAt H k v
  k2 : KeptAt H k dv
  sz : ∀ s, k = some s → s.size ≤ 120
  tb : LamX.TabS H pT qT
def spLaw (pT : Addr) (qT : Str) : Sp := fun vs H Q _ => ∃ (a : Addr) (ns : List Int), vs = [.ref a] ∧ SqL K H a (ns.map V.int) ∧ ns.length ≤ 100 ∧ LamX.TabS H pT qT ∧ ∀ H', Q (.bl true) H'
theorem cut_ints (ns : List Int) (lo hi : Option Int) : cutV (ns.map V.int) lo hi = ((ns.drop (HT.sIx ns.length 0 lo)).take (HT.sIx ns.length ns.length hi - HT.sIx ns.length 0 lo)).map V.int := by
  unfold cutV
  rw [List.length_map, List.map_take, List.map_drop]
theorem q_seq2 {s1 s2 : TS} {D : Ends} {σ : L2.St} {H : Hp} {N : L2.St → Hp → Prop} (h2 : ∀ σ' H', N σ' H' → s2 D σ' H') (h1 : (∀ σ' H', N σ' H' → s2 D σ' H') → s1 { D with nx := fun σ' H' => s2 D σ' H' } σ H) : tSeq s1 s2 D σ H := h1 h2
theorem q_md {i j : Int} {H : Hp} {Q : VK} (hj : 0 < j) (q : ∀ m : Int, Q (.int m) H) : rI (fun _ j => 0 < j) (fun i j => .int (i % j)) (.int i) (.int j) H Q := ⟨_, _, rfl, rfl, hj, q _⟩
theorem q_fd {i j : Int} {H : Hp} {Q : VK} (hj : CDiv i j) (q : ∀ m : Int, Q (.int m) H) : rI CDiv (fun i j => .int (i / j)) (.int i) (.int j) H Q := ⟨_, _, rfl, rfl, hj, q _⟩
theorem q_free {a : Addr} {ns : List Int} {σ : L2.St} {H : Hp} {Q : VK} (hσ : σ[0]? = some (some (.ref a))) (hS : SqL K H a (ns.map V.int)) (q : ∀ b, Q (.bl b) H) :
    tAndV (tOp (rI0 fun i j => .bl (decide (i > j))) (tCB (fun xs H Q => ∃ p ys, xs = [.ref p] ∧ (SqL K H p ys ∨ SqT K H p ys) ∧ Q (.int ys.length) H) (tCons (tVar 0) tNil)) (tC (.int 0))) (tOp rEq (tOp (rI (fun _ j => 0 < j) fun i j => .int (i % j)) (tOp (rIxL K) (tVar 0) (tC (.int 0))) (tC (.int 2))) (tC (.int 1))) σ H Q := by
  refine ⟨_, hσ, a, _, rfl, .inl hS, _, _, rfl, rfl, _, rfl, ite2 (fun c => ?_) fun _ => q _⟩
  have c' : ((ns.map V.int).length : Int) > 0 := of_decide_eq_true c
  rw [List.length_map] at c'
  obtain ⟨z, hz⟩ := atI_int (ns := ns) (i := 0) (by omega) (by omega)
  exact ⟨_, hσ, a, _, _, _, rfl, rfl, hS, hz, _, _, rfl, rfl, (by show (0:Int) < _; decide), rfl, q _⟩
theorem LS.ext {H H' : Hp} {a sl st x dx : Addr} {ns cs : List Int} {b : Bool} {k : Option Say} {v dv : V} {pT : Addr} {qT : Str} (L : LS K H a ns sl cs st x dx b k v dv pT qT) (g : Same H H') : LS K H' a ns sl cs st x dx b k v dv pT qT :=
  ⟨g.seq L.scr, g.seq L.cel, g _ _ L.st, g _ _ L.dk, L.k1.mono g, L.k2.mono g, L.sz, L.tb.ext g⟩
theorem LS.ne {H : Hp} {a sl st x dx : Addr} {ns cs : List Int} {b : Bool} {k : Option Say} {v dv : V} {pT : Addr} {qT : Str} (L : LS K H a ns sl cs st x dx b k v dv pT qT) : x ≠ st := by
  rintro rfl
  have h1 : H x = _ := L.st
  have h2 : H x = _ := L.dk
  rw [h1] at h2
  cases h2
theorem okN {k : Nat} {f : Addr} {fd : FuncData} {nm qual : Str} {st : Stmt} {N ps : List Str} {sp : Sp} (F : FunD K nm qual (defArgs st) (defBody st) (defScope st) [] [] f fd) (S : FnScope N ps (defScope st)) (len : ∀ vs H Q E, sp vs H Q E → vs.length = ps.length)
    (hbody : ∀ (cdv : Value) (A : Around) (outer : List Env) (s : Shared) (H : Hp) (vs : List V) (Q : VK) (E : XK), Room k (A.deeper (envOfC qual (defScope st) s.heap.objs.size f cdv)) → sp vs H Q E →
      ∃ t, PSs (cxOf CX0 P w K mg base N qual (defScope st) f cdv A outer s H E).nox (defBody st) t ∧ t { nx := fun _ H' => Q .non H', rt := Q } (start N vs) H) : FnOk P w K mg base CX0 (k + 1) f fd ps sp := by
  refine F.ok S len fun cdv A outer s H vs Q E hr h => ?_
  obtain ⟨t, h1, h2⟩ := hbody cdv A outer s H vs Q E hr h
  exact ⟨t, PSs.nox h1, h2⟩
theorem cl_law {f : Addr} {fd : FuncData} {pT fI : Addr} {qT : Str} (D : FunD K "law" "law" (defArgs s_law) (defBody s_law) (defScope s_law) [] [] f fd) (T : Tx mg) (C : DeskC K) (atD : mg "Desk" = some (xc K "Desk")) (M : Mk K (He.ga K "Desk") fI) (cI : Ca P w K mg base CX0 1 fI (spDeskI (K := K)))
    (cSay : Cl P w K mg base CX0 133 "_law_say_line" (spSayLine (K := K))) (cPut : Cl P w K mg base CX0 133 "_law_put_line" (spPutLine (K := K))) (cRow : Cl P w K mg base CX0 133 "_law_row_line" (spRowLine)) (cAsk : Cl P w K mg base CX0 132 "_law_asked_line" (spAskedLine)) (cCh : Cl P w K mg base CX0 132 "_law_chain_line" (spChainLine))
    (cSd : Cl P w K mg base CX0 202 "_law_said" (spSaid (K := K) pT qT)) : FnOk P w K mg base CX0 203 f fd ["_law_script"] (spLaw (K := K) pT qT) := by
  obtain ⟨fd, psn, F, bn⟩ := cI.ex
  refine okN D c_law (fun vs H Q E h => ?_) fun cdv A outer s H vs Q E hr h => ?_
  · obtain ⟨a, ns, rfl, _⟩ := h
    rfl
  obtain ⟨a, ns, rfl, hS, hn, hT, q⟩ := h
  have hu := hu_of hr
  refine ⟨_, pss_cons (ps_set (i := 1) c_law.nd rfl (Or.inl rfl) (pe_disp (pps_cons pe_str pe_non (pps_cons pe_str (pe_and (pe_cmpR op_gt (pe_callB call_len_seq rfl T.len PySem.boot_len (pa_cons (pv 0) pa_nil)) pe_int (nomark _)) (pe_one (pe_cmpR op_eq (pe_op op_mod (pe_ix ix_list (pv 0) pe_int (fun _ _ => rfl)) pe_int) pe_int (nomark _)))) pps_nil)) rfl rfl (by simp) (by simp)))
    (pss_cons (ps_set (i := 2) c_law.nd rfl (Or.inl rfl) (pe_make0 (E := E0) M F (hr.mono (by omega)) rfl atD bn .nil pass0))
    (pss_cons (ps_for PassesOwn.never rfl (pi_enum rfl T.enumerate (pa_cons (pe_slice sl_list (pv 0) (po_some pe_int) (po_some pe_int)) pa_nil)) (pg_tup rfl (pgs_cons (pg_name (i := 3) c_law.nd rfl (Or.inl rfl)) (pgs_cons (pg_name (i := 4) c_law.nd rfl (Or.inl rfl)) pgs_nil)))
      (pss_cons (ps_set (i := 5) c_law.nd rfl (Or.inl rfl) (pe_op op_mod (pe_op op_mul (pe_op op_add (pe_op op_mod (pv 4) (pe_op op_pow pe_int pe_int)) (pe_op op_mul pe_int (pv 3))) pe_int) pe_int))
      (pss_cons (ps_if (pt_val (pe_dget hu (pv 1) pe_str (fun _ _ => rfl))) (pss_one (ps_set (i := 5) c_law.nd rfl (Or.inl rfl) (pe_op op_fdiv (pe_op op_mod (pv 4) (pe_op op_pow pe_int pe_int)) pe_int))) pss_nil)
      (pss_cons (ps_if (pt_cmpR op_lt (pe_op op_mod (pv 4) pe_int) pe_int (nomark _))
        (pss_one (ps_asg (pe_c0 cSay hr (by omega) (pa_cons (pv 1) (pa_cons (pv 0) (pa_cons (pv 3) (pa_cons (pv 5) pa_nil))))) (pg_tup rfl (pgs_cons (pg_name (i := 7) c_law.nd rfl (Or.inl rfl)) (pgs_cons (pg_name (i := 8) c_law.nd rfl (Or.inl rfl)) pgs_nil)))))
        (pss_one (ps_if (pt_cmpR op_isN (pe_dget hu (pv 1) pe_str (fun _ _ => rfl)) pe_non rfl)
          (pss_one (ps_par (i := 7) (j := 8) rfl c_law.nd rfl rfl (by decide) rfl rfl (pa_cons (pe_ix ix_list (pe_lst (pa_cons pe_str (pa_cons pe_str (pa_cons pe_str (pa_cons pe_str (pa_cons pe_str (pa_cons pe_str (pa_cons pe_str pa_nil)))))))) (pe_op op_mod (pv 4) pe_int) (fun _ _ => rfl)) (pa_cons (pe_lst (pa_cons pe_str pa_nil)) pa_nil)) rfl))
          (pss_one (ps_if (pt_cmpR op_eq (pe_op op_mod (pv 4) pe_int) pe_int (nomark _))
            (pss_one (ps_asg (pe_c0 cPut hr (by omega) (pa_cons (pv 1) (pa_cons (pv 0) (pa_cons (pv 3) (pa_cons (pv 5) pa_nil))))) (pg_tup rfl (pgs_cons (pg_name (i := 7) c_law.nd rfl (Or.inl rfl)) (pgs_cons (pg_name (i := 8) c_law.nd rfl (Or.inl rfl)) pgs_nil)))))
            (pss_one (ps_if (pt_cmpR op_eq (pe_op op_mod (pv 4) pe_int) pe_int (nomark _))
              (pss_one (ps_asg (pe_c0 cRow hr (by omega) (pa_cons (pv 1) pa_nil)) (pg_tup rfl (pgs_cons (pg_name (i := 7) c_law.nd rfl (Or.inl rfl)) (pgs_cons (pg_name (i := 8) c_law.nd rfl (Or.inl rfl)) pgs_nil)))))
              (pss_one (ps_if (pt_cmpR op_eq (pe_op op_mod (pv 4) pe_int) pe_int (nomark _))
                (pss_one (ps_asg (pe_c0 cAsk hr (by omega) (pa_cons (pv 1) (pa_cons (pe_op op_mod (pv 5) pe_int) pa_nil))) (pg_tup rfl (pgs_cons (pg_name (i := 7) c_law.nd rfl (Or.inl rfl)) (pgs_cons (pg_name (i := 8) c_law.nd rfl (Or.inl rfl)) pgs_nil)))))
                (pss_one (ps_asg (pe_c0 cCh hr (by omega) (pa_cons (pv 1) (pa_cons (pv 5) pa_nil))) (pg_tup rfl (pgs_cons (pg_name (i := 7) c_law.nd rfl (Or.inl rfl)) (pgs_cons (pg_name (i := 8) c_law.nd rfl (Or.inl rfl)) pgs_nil))))))))))))))
      (pss_cons (ps_set (i := 6) c_law.nd rfl (Or.inl rfl) (pe_c0 cSd hr (by omega) (pa_cons (pv 2) (pa_cons (pv 7) pa_nil))))
      (pss_one (ps_if (PW.pt (pw_or (PW.pt (pw_and (pt_cmpR op_isN (pv 8) pe_non rfl) (pw_and1 (pt_not (pt_val (pe_callB call_isi rfl T.isinstance (by decide +kernel) (pa_cons (pv 6) (pa_cons (pe_bltn (v := .ty "str") rfl T.str (by decide +kernel) rfl) pa_nil)))))))) (pw_or1 (PW.pt (pw_and (pt_cmpR op_notN (pv 8) pe_non rfl) (pw_and1 (pt_cmpR (op_neB hr) (pv 6) (pv 8) (nomark _)))))))) (pss_one (ps_ret pe_bl)) pss_nil)))))))
    (pss_one (ps_ret pe_bl)))), ?_⟩
  have ec := cut_ints ns (some 1) (some 30)
  generalize hcs : ((ns.drop (HT.sIx ns.length 0 (some 1))).take (HT.sIx ns.length ns.length (some 30) - HT.sIx ns.length 0 (some 1))) = cs at ec
  have hcl : cs.length ≤ 100 := by rw [← hcs, List.length_take, List.length_drop]; omega
  intro st nst
  have g0 := same_new nst (.dK [])
  refine q_free (K := K) (a := a) (ns := ns) rfl (g0.seq hS) fun b => ⟨upd_same, [((Sum.inr "kept" : Key), V.non), ((Sum.inr "free" : Key), V.bl b)], rfl, by simp, ?_⟩
  have em : mergeK [] [((Sum.inr "kept" : Key), V.non), (Sum.inr "free", .bl b)] = [((Sum.inr "kept" : Key), V.non), ((Sum.inr "free" : Key), V.bl b)] := by
    simp [mergeK, putK, key_ne.1, key_ne.2]
  rw [em]
  intro x dx nx ndx ne
  refine ⟨x, dx, rfl, upd_same, rfl, ?_⟩
  have g1 : Same H (upd (upd H st (.dK [])) st (.dK [((Sum.inr "kept" : Key), V.non), (Sum.inr "free", .bl b)])) := fun c o z => by
    have := ne_of_none z nst
    rw [upd_ne this, upd_ne this]; exact z
  have hst1 : StAt (upd (upd H st (.dK [])) st (.dK [((Sum.inr "kept" : Key), V.non), (Sum.inr "free", .bl b)])) st .non b := upd_same
  generalize upd (upd H st (.dK [])) st (.dK [((Sum.inr "kept" : Key), V.non), (Sum.inr "free", .bl b)]) = H1 at nx ndx g1 hst1
  have g2 : Same H1 (upd (upd (upd H1 dx (.own x)) x (.ins (He.ga K "Desk") dx [])) x (.ins (He.ga K "Desk") dx [("kept", .non)])) := fun c o z => by
    rw [upd_ne (ne_of_none z nx), upd_ne (ne_of_none z nx), upd_ne (ne_of_none z ndx)]; exact z
  have hdk2 : DeskAt K (upd (upd (upd H1 dx (.own x)) x (.ins (He.ga K "Desk") dx [])) x (.ins (He.ga K "Desk") dx [("kept", .non)])) x dx .non := upd_same
  generalize upd (upd (upd H1 dx (.own x)) x (.ins (He.ga K "Desk") dx [])) x (.ins (He.ga K "Desk") dx [("kept", .non)]) = H2 at g2 hdk2
  have g12 := g1.trans g2
  refine ⟨_, rfl, _, rfl, _, rfl, a, _, rfl, g12.seq hS, fun sl nsl => ?_⟩
  rw [ec]
  refine ⟨sl, cs.map V.int, rfl, SqL.of upd_same, ?_⟩
  have g3 := same_new nsl (.lst (cs.map V.int))
  have L0 : LS K (upd H2 sl (.lst (cs.map V.int))) a ns sl cs st x dx b none .non .non pT qT :=
    ⟨(g12.trans g3).seq hS, SqL.of upd_same, g3 _ _ (g2 _ _ hst1), g3 _ _ hdk2, rfl, rfl, fun s z => (by cases z), hT.ext (g12.trans g3)⟩
  refine for_it walk_enum (fun _ σ H2 => ∃ (o3 o4 o5 o6 o7 o8 : Option V) (k : Option Say) (v dv : V), σ = [some (.ref a), some (.ref st), some (.ref x), o3, o4, o5, o6, o7, o8] ∧ LS K H2 a ns sl cs st x dx b k v dv pT qT) ⟨none, none, none, none, none, none, none, _, _, rfl, L0⟩ (fun _ σ H2 _ ⟨_, _, _, _, _, _, _, _, _, _, L⟩ => L.cel) (fun i u σ H4 H5 hi h hy => ?_) fun σ H4 h => q _
  obtain ⟨o3, o4, o5, o6, o7, o8, k, v, dv, rfl, L⟩ := h
  obtain ⟨tp, x', y, rfl, nT, rfl, hx', hy⟩ := hy
  injection hx' with hx'
  subst hx'
  replace hy : (cs.map V.int)[i]? = some y := hy
  rw [List.getElem?_map] at hy
  obtain ⟨cell, -, rfl⟩ := Option.map_eq_some_iff.mp hy
  have L := L.ext (same_new nT (.tup [.int (i : Nat), .int cell]))
  have hTp : SqT K (upd H4 tp (.tup [.int (i : Nat), .int cell])) tp [.int (i : Nat), .int cell] := SqT.of upd_same
  generalize upd H4 tp (.tup [.int (i : Nat), .int cell]) = H5 at L hTp
  have hi100 : i ≤ 100 := by rw [List.length_map] at hi; omega
  refine ⟨tp, _, rfl, hTp, rfl, _, _, rfl, _, _, rfl, rfl, ?_⟩
  refine q_seq2 (N := fun σ' H' => ∃ m : Int, σ' = [some (.ref a), some (.ref st), some (.ref x), some (.int (i : Nat)), some (.int cell), some (.int m), o6, o7, o8] ∧ H' = H5) ?_ fun fin0 => ?_
  rotate_left
  · exact ⟨_, rfl, _, _, rfl, rfl, p12, _, _, rfl, rfl, (by show (0:Int) < _; decide), _, rfl, _, _, rfl, rfl, mulL (by decide), _, _, rfl, rfl, _, _, rfl, rfl, mulR (by decide), _, _, rfl, rfl, (by show (0:Int) < _; decide), fin0 _ _ ⟨_, rfl, rfl⟩⟩
  rintro σ0 H0 ⟨m0, rfl, e0⟩
  subst e0
  refine q_seq2 (N := fun σ' H' => ∃ m : Int, σ' = [some (.ref a), some (.ref st), some (.ref x), some (.int (i : Nat)), some (.int cell), some (.int m), o6, o7, o8] ∧ H' = H0) ?_ fun fin => ?_
  rotate_left
  · refine ⟨_, rfl, st, _, rfl, get_free L.st, b, rfl, ite2 (fun _ => ?_) fun _ => fin _ _ ⟨_, rfl, rfl⟩⟩
    exact ⟨_, rfl, _, _, rfl, rfl, p60, _, _, rfl, rfl, (by show (0:Int) < _; decide), _, _, rfl, rfl, ⟨by decide, by decide⟩, fin _ _ ⟨_, rfl, rfl⟩⟩
  rintro σ' H' ⟨m, rfl, e1⟩
  subst e1
  refine q_seq2 (N := fun σ' H' => ∃ (c : Cmd) (r : Res) (v' due : V), σ' = [some (.ref a), some (.ref st), some (.ref x), some (.int (i : Nat)), some (.int cell), some (.int m), o6, some (.str (S c.line)), some due] ∧
    c.ok ∧ c.line.length ≤ 50000 ∧ Does k c r ∧ DueAt H' r due ∧ SqL K H' a (ns.map V.int) ∧ SqL K H' sl (cs.map V.int) ∧ StAt H' st v' b ∧ DeskAt K H' x dx dv ∧ KeptAt H' (r.kept k) v' ∧ KeptAt H' k dv ∧ LamX.TabS H' pT qT) ?_ fun fin => ?_
  rotate_left
  · have lq : ∀ (Q2 : VK), (∀ (q2 : Addr) (due : V) (c : Cmd) (H2 : Hp), SqT K H2 q2 [.str (S c.line), due] → (∃ (r : Res) (v' : V), c.ok ∧ c.line.length ≤ 50000 ∧ Does k c r ∧ DueAt H2 r due ∧ SqL K H2 a (ns.map V.int) ∧ SqL K H2 sl (cs.map V.int) ∧ StAt H2 st v' b ∧ DeskAt K H2 x dx dv ∧ KeptAt H2 (r.kept k) v' ∧ KeptAt H2 k dv ∧ LamX.TabS H2 pT qT) → Q2 (.ref q2) H2) → LineQ H' Q2 st b k :=
      fun Q2 hq q2 due c r v' H2 e1 e2 e3 e4 e5 e6 e7 e8 => hq q2 due c H2 (SqT.of e7) ⟨r, v', e5, e6, e3, e8, seq_exc L.st plain_dK e1 L.scr, seq_exc L.st plain_dK e1 L.cel, e2, e1 _ _ L.ne L.dk, e4, KeptAt.excN L.st plain_dK e1 L.k2, tab_exc L.st plain_dK e1 L.tb⟩
    refine ⟨_, rfl, _, _, rfl, rfl, (by show (0:Int) < _; decide), _, _, rfl, rfl, _, rfl, ite2 (fun _ => ?_) fun _ => ?_⟩
    · refine ⟨_, rfl, _, rfl, _, rfl, _, rfl, st, a, ns, i, m, v, b, k, rfl, L.scr, by omega, hi100, L.st, L.k1, lq _ fun q2 due c H2 h7 ⟨r, v', hN⟩ => ?_⟩
      exact ⟨q2, _, rfl, h7, rfl, _, _, rfl, _, _, rfl, rfl, fin _ _ ⟨c, r, v', due, rfl, hN⟩⟩
    refine ⟨_, rfl, st, v, rfl, get_kept L.st, rfl, _, rfl, ite2 (fun hv => ?_) fun hv => ?_⟩
    · have hv' : v = .non := of_decide_eq_true hv
      have hk : k = none := by
        cases k with
        | none => rfl
        | some s =>
          have h1 : SayAt H' s v := L.k1
          obtain ⟨b1, rr, e, _⟩ := h1.tup
          rw [hv'] at e
          cases e
      subst hk
      refine ⟨sz (n := 7) (by decide), fun l nl => ?_⟩
      have gl := same_new nl (.lst [V.str "judge", .str "row", .str "put p (", .str "chain -", .str "kinds", .str "self", .str "alike ~"])
      obtain ⟨y, hy, hi7⟩ := atI_lt (l := [V.str "judge", .str "row", .str "put p (", .str "chain -", .str "kinds", .str "self", .str "alike ~"]) (i := cell % 7) (Int.emod_nonneg _ (by decide)) (Int.emod_lt_of_pos _ (by decide))
      obtain ⟨c, rfl, hok, hns, hlen⟩ := none_lines y hy
      refine ⟨_, rfl, _, _, rfl, rfl, (by show (0:Int) < _; decide), l, _, _, _, rfl, rfl, SqL.of upd_same, hi7, sz (n := 1) (by decide), fun p np => ⟨_, _, rfl, ?_⟩⟩
      have gp := same_new np (.lst [.str "nothing"])
      have L2 := L.ext (gl.trans gp)
      exact fin _ _ ⟨c, .bad .nothing, v, .ref p, rfl, hok, hlen, Does.nothing c hns, ⟨p, rfl, upd_same⟩, L2.scr, L2.cel, L2.st, L2.dk, L2.k1, L2.k2, L2.tb⟩
    have hk : ∃ s, k = some s := by
      cases k with
      | none =>
        have h1 : v = .non := L.k1
        exact absurd (decide_eq_true h1) hv
      | some s => exact ⟨s, rfl⟩
    obtain ⟨s, rfl⟩ := hk
    have hs120 := L.sz s rfl
    refine ⟨_, rfl, _, _, rfl, rfl, (by show (0:Int) < _; decide), rfl, _, rfl, ite2 (fun _ => ?_) fun _ => ?_⟩
    · refine ⟨_, rfl, _, rfl, _, rfl, _, rfl, st, a, ns, i, m, v, b, s, rfl, L.scr, by omega, hi100, L.st, L.k1, hs120, lq _ fun q2 due c H2 h7 ⟨r, v', hN⟩ => ?_⟩
      exact ⟨q2, _, rfl, h7, rfl, _, _, rfl, _, _, rfl, rfl, fin _ _ ⟨c, r, v', due, rfl, hN⟩⟩
    refine ⟨_, rfl, _, _, rfl, rfl, (by show (0:Int) < _; decide), rfl, _, rfl, ite2 (fun _ => ?_) fun _ => ?_⟩
    · refine ⟨_, rfl, st, v, b, s, rfl, L.st, L.k1, hs120, lq _ fun q2 due c H2 h7 ⟨r, v', hN⟩ => ?_⟩
      exact ⟨q2, _, rfl, h7, rfl, _, _, rfl, _, _, rfl, rfl, fin _ _ ⟨c, r, v', due, rfl, hN⟩⟩
    refine ⟨_, rfl, _, _, rfl, rfl, (by show (0:Int) < _; decide), rfl, _, rfl, ite2 (fun _ => ?_) fun _ => ?_⟩
    · refine ⟨_, rfl, _, rfl, _, _, rfl, rfl, (by show (0:Int) < _; decide), st, _, v, b, s, rfl, L.st, L.k1, hs120, lq _ fun q2 due c H2 h7 ⟨r, v', hN⟩ => ?_⟩
      exact ⟨q2, _, rfl, h7, rfl, _, _, rfl, _, _, rfl, rfl, fin _ _ ⟨c, r, v', due, rfl, hN⟩⟩
    · refine ⟨_, rfl, _, rfl, st, _, v, b, s, rfl, L.st, L.k1, hs120, lq _ fun q2 due c H2 h7 ⟨r, v', hN⟩ => ?_⟩
      exact ⟨q2, _, rfl, h7, rfl, _, _, rfl, _, _, rfl, rfl, fin _ _ ⟨c, r, v', due, rfl, hN⟩⟩
  rintro σ' H' ⟨c, r, v', due, rfl, hok, hlen, hdo, hdue, hscr, hcel, hst, hdk, hk1, hk2, htb⟩
  have h120 := does_kept hdo L.sz
  have nex := L.ne
  refine ⟨_, rfl, _, rfl, x, dx, dv, k, c, r, rfl, hdk, hk2, L.sz, hok, hlen, htb, hdo, ?_⟩
  cases r with
  | txt out k' =>
    intro dv' H6 e6 hdk6 hk6
    have hd : due = .str out := hdue
    subst hd
    have hnn : V.str out ≠ .non := fun e => by cases e
    have L6 : LS K H6 a ns sl cs st x dx b k' v' dv' pT qT := ⟨seq_exc hdk plain_ins e6 hscr, seq_exc hdk plain_ins e6 hcel, e6 _ _ nex.symm hst, hdk6, KeptAt.excN hdk plain_ins e6 hk1, hk6, h120, tab_exc hdk plain_ins e6 htb⟩
    refine ⟨_, rfl, rfl, _, rfl, ite2 (fun z => absurd (of_decide_eq_true z) hnn) fun _ => ite2 (fun z => absurd z Bool.false_ne_true) fun _ => ?_⟩
    refine ⟨_, rfl, rfl, _, rfl, ite2 (fun _ => ?_) fun z => absurd (by rw [decide_eq_false hnn]; rfl) z⟩
    refine ⟨_, rfl, _, rfl, .inl ⟨rfl, ?_⟩⟩
    rw [decide_eq_true rfl]
    exact ⟨_, rfl, ite2 (fun z => absurd z Bool.false_ne_true) fun _ => ⟨_, _, _, _, _, _, _, _, _, rfl, L6⟩⟩
  | bad e =>
    intro p H6 g6 hp
    obtain ⟨p2, rfl, hp2⟩ := hdue
    have hnn : V.ref p2 ≠ .non := fun e => by cases e
    have L6 : LS K H6 a ns sl cs st x dx b k v' dv pT qT := ⟨g6.seq hscr, g6.seq hcel, g6 _ _ hst, g6 _ _ hdk, KeptAt.mono g6 hk1, hk2.mono g6, h120, htb.ext g6⟩
    refine ⟨_, rfl, rfl, _, rfl, ite2 (fun z => absurd (of_decide_eq_true z) hnn) fun _ => ite2 (fun z => absurd z Bool.false_ne_true) fun _ => ?_⟩
    refine ⟨_, rfl, rfl, _, rfl, ite2 (fun _ => ?_) fun z => absurd (by rw [decide_eq_false hnn]; rfl) z⟩
    refine ⟨_, rfl, _, rfl, .inr ⟨.list (dueD e), .list (dueD e), .lst (SqL.of hp) (due_dp e), .lst (SqL.of (g6 _ _ hp2)) (due_dp e), due_lay e, due_lay e, by have := due_depth e; omega, ?_⟩⟩
    rw [due_eq]
    exact ⟨_, rfl, ite2 (fun z => absurd z Bool.false_ne_true) fun _ => ⟨_, _, _, _, _, _, _, _, _, rfl, L6⟩⟩
  | any =>
    intro z H6 g6 gT
    have hd : due = .non := hdue
    subst hd
    have L6 : LS K H6 a ns sl cs st x dx b k v' dv pT qT := ⟨seq_extN g6 hscr, seq_extN g6 hcel, g6 _ _ hst (fun _ z => by cases z), g6 _ _ hdk (fun _ z => by cases z), hk1.extN g6, hk2.extN g6, h120, gT⟩
    refine ⟨_, rfl, rfl, _, rfl, ite2 (fun _ => ?_) fun z => absurd (decide_eq_true rfl) z⟩
    refine ⟨_, rfl, .str z, .ty "str", .type "str", .type "str", true, rfl, .ty _, .base (.str z), kit_ty (by decide +kernel), _, rfl, ite2 (fun z => absurd z Bool.false_ne_true) fun _ => ?_⟩
    refine ⟨_, rfl, rfl, _, rfl, ite2 (fun z => absurd z (by rw [decide_eq_true rfl]; exact Bool.false_ne_true)) fun _ => ite2 (fun z => absurd z Bool.false_ne_true) fun _ => ⟨_, _, _, _, _, _, _, _, _, rfl, L6⟩⟩
end
end SD
namespace SD
open PySem PySem.Spec PyProof.Rows L2 SX
section
variable {P : Program} {w : World} {K : PySem.W.Frag} {mg : Str → Option Value} {base : Heap}
/-! # rows of truths -/
/-- a tuple of n truths -/
def RowV (H : Hp) (n : Nat) (y : V) : Prop := ∃ (q : Addr) (bs : List Bool) (ob : Obj), y = .ref q ∧ H q = some (.frz ob (.tup (bs.map V.bl))) ∧ ob.dict = none ∧ bs.length = n
theorem RowV.mono {H H' : Hp} {n : Nat} {y : V} (g : Same H H') (h : RowV H n y) : RowV H' n y := by
  obtain ⟨q, bs, ob, e, h1, h2⟩ := h
  exact ⟨q, bs, ob, e, g _ _ h1, h2⟩
theorem RowV.exc {H H' : Hp} {n : Nat} {y : V} {D : Addr} {acc : List V} (hD : H D = some (.lst acc)) (g : Exc D H H') (h : RowV H n y) : RowV H' n y := by
  obtain ⟨q, bs, ob, e, h1, h2⟩ := h
  exact ⟨q, bs, ob, e, g _ _ (ne_of h1 hD (by intro y; cases y)) h1, h2⟩
/-- a pair of a row and a truth -/
def PairV (H : Hp) (n : Nat) (z : V) : Prop := ∃ (q : Addr) (row : V) (b : Bool), z = .ref q ∧ H q = some (.tup [row, .bl b]) ∧ RowV H n row
theorem PairV.mono {H H' : Hp} {n : Nat} {y : V} (g : Same H H') (h : PairV H n y) : PairV H' n y := by
  obtain ⟨q, r, b, e, h1, h2⟩ := h
  exact ⟨q, r, b, e, g _ _ h1, h2.mono g⟩
theorem PairV.exc {H H' : Hp} {n : Nat} {y : V} {D : Addr} {acc : List V} (hD : H D = some (.lst acc)) (g : Exc D H H') (h : PairV H n y) : PairV H' n y := by
  obtain ⟨q, r, b, e, h1, h2⟩ := h
  exact ⟨q, r, b, e, g _ _ (ne_of h1 hD (by intro y; cases y)) h1, h2.exc hD g⟩
def spCrossed : Sp := fun vs H Q _ => ∃ (a : Addr) (ys : List V) (n : Nat), vs = [.ref a] ∧ SqL K H a ys ∧ (∀ y ∈ ys, RowV H n y) ∧ ys.length ≤ 100 ∧ ∀ (p : Addr) (zs : List V) (H' : Hp), Same H H' → H p = none → H' p = some (.lst zs) → zs.length = 2 * ys.length → (∀ z ∈ zs, PairV H' n z) → Q (.ref p) H'
theorem cl_crossed (D : Df K mg "crossed" "crossed" "crossed" s_crossed ["rows"]) : Cl P w K mg base CX0 1 "crossed" (spCrossed (K := K)) := by
  refine D.ok c_crossed (fun vs H Q E h => ?_) fun f cdv A outer s H vs Q E hr h => ?_
  · obtain ⟨a, ys, n, rfl, _⟩ := h
    rfl
  obtain ⟨a, ys, n, rfl, hS, hR, hz, k⟩ := h
  refine ⟨_, pss_cons (ps_set (i := 1) c_crossed.nd rfl (Or.inl rfl) (pe_lst pa_nil))
    (pss_cons (ps_for PassesOwn.never rfl (pi_list (pv 0)) (pg_name (i := 2) c_crossed.nd rfl (Or.inl rfl))
      (pss_cons (ps_expr (pe_bm PySem.F.plainAttrs_list PySem.F.slot_list_append PySem.F.type_list_append mt_append (pv 1) (pa_cons (pe_tup (pa_cons (pv 2) (pa_cons pe_bl pa_nil))) pa_nil)))
      (pss_one (ps_expr (pe_bm PySem.F.plainAttrs_list PySem.F.slot_list_append PySem.F.type_list_append mt_append (pv 1) (pa_cons (pe_tup (pa_cons (pv 2) (pa_cons pe_bl pa_nil))) pa_nil))))))
    (pss_one (ps_ret (pv 1)))), ?_⟩
  refine ⟨sz (n := 0) (by decide), fun L nL => ?_⟩
  have g0 := same_new nL (.lst [])
  refine ⟨_, rfl, a, rfl, ⟨_, g0.seq hS⟩, ?_⟩
  refine for_list (K := K) (a := a) (xs := ys) (fun i σ H2 => ∃ (o : Option V) (zs : List V), σ = [some (.ref a), some (.ref L), o] ∧ Exc L (upd H L (.lst [])) H2 ∧ H2 L = some (.lst zs) ∧ zs.length = 2 * i ∧ ∀ z ∈ zs, PairV H2 n z)
    ⟨none, [], rfl, fun _ _ _ q => q, upd_same, rfl, fun z hz => by cases hz⟩ (fun i σ H2 _ ⟨_, _, _, ex, _⟩ => ?_) (fun i u σ H2 hi h => ?_) fun σ H2 h => ?_
  · exact Same.seq (fun c o z => ex _ _ (ne_of_none z nL) (g0 _ _ z)) hS
  · obtain ⟨o, zs, rfl, ex, hL, hl, hp⟩ := h
    have hil : i < ys.length := (List.getElem?_eq_some_iff.mp hi).1
    refine ⟨_, rfl, .inl ⟨rfl, _, SqL.of hL⟩, _, rfl, sz (n := 2) (by decide), fun q nq => ?_⟩
    have g1 := same_new nq (.tup [u, .bl false])
    have hu : RowV H2 n u := (hR u (List.mem_of_getElem? hi)).mono (fun c o z => ex _ _ (ne_of_none z nL) (g0 _ _ z))
    have add : ∀ {H3 H4 : Hp} {ws : List V} {y : V}, Exc L (upd H L (.lst [])) H3 → H3 L = some (.lst ws) → (∀ z ∈ ws, PairV H3 n z) → Same H3 H4 → PairV H4 n y → Exc L (upd H L (.lst [])) (upd H4 L (.lst (ws ++ [y]))) ∧ (∀ z ∈ ws ++ [y], PairV (upd H4 L (.lst (ws ++ [y]))) n z) := by
      intro H3 H4 ws y e3 h3 p3 g4 py
      have ex4 : Exc L H4 (upd H4 L (.lst (ws ++ [y]))) := fun c o hc z => by rw [upd_ne hc]; exact z
      refine ⟨fun c o hc z => by rw [upd_ne hc]; exact g4 _ _ (e3 _ _ hc z), fun z hz => ?_⟩
      rcases List.mem_append.mp hz with hz | hz
      · exact ((p3 z hz).mono g4).exc (g4 _ _ h3) ex4
      · rw [List.mem_singleton.mp hz]; exact py.exc (g4 _ _ h3) ex4
    obtain ⟨a1, a2⟩ := add ex hL hp g1 ⟨q, u, false, rfl, upd_same, hu.mono g1⟩
    refine ⟨L, zs, _, rfl, rfl, g1 _ _ hL, sz (by omega), ?_⟩
    refine ⟨_, rfl, .inl ⟨rfl, _, SqL.of upd_same⟩, _, rfl, sz (n := 2) (by decide), fun q2 nq2 => ?_⟩
    have g2 := same_new nq2 (.tup [u, .bl true])
    have hu2 : RowV (upd (upd H2 q (.tup [u, .bl false])) L (.lst (zs ++ [.ref q]))) n u := (hR u (List.mem_of_getElem? hi)).mono (fun c o z => a1 _ _ (ne_of_none z nL) (g0 _ _ z))
    obtain ⟨b1, b2⟩ := add a1 upd_same a2 g2 ⟨q2, u, true, rfl, upd_same, hu2.mono g2⟩
    refine ⟨L, zs ++ [.ref q], _, rfl, rfl, g2 _ _ upd_same, sz (by rw [List.length_append]; simp; omega), ?_⟩
    exact ⟨some u, zs ++ [.ref q] ++ [.ref q2], rfl, b1, upd_same, by rw [List.length_append, List.length_append]; simp; omega, b2⟩
  · obtain ⟨o, zs, rfl, ex, hL, hl, hp⟩ := h
    exact ⟨_, rfl, k L zs H2 (fun c o z => ex _ _ (ne_of_none z nL) (g0 _ _ z)) nL hL hl hp⟩
end
section
variable {X : Cx} {es : List Expr} {t : TA} {pos : Pos}
/-- a tuple that stays: its object is told -/
def tTupF (t : TA) : TE := fun σ H Q => t σ H fun xs H1 => xs.length ≤ sizeLine ∧ ∀ (p : Addr) (ob : Obj), H1 p = none → ob.dict = none → Q (.ref p) (upd H1 p (.frz ob (.tup xs)))
theorem pe_tupF {x1} (h : PA X es t) : PE X (.Tuple es x1 pos) (tTupF t) := by
  refine ⟨fun pins s σ H Q I hq => ?_⟩
  refine wpAny_Tuple_spliced (thn (h.run pos pins s σ H _ I hq) fun us s1 ⟨xs, H1, I1, r, z, q⟩ => ⟨by rw [← r.length]; exact z, ?_⟩)
  refine ⟨.ref s1.heap.objs.size, upd H1 s1.heap.objs.size (.frz { cls := .type "tuple", data := .seq us.toArray } (.tup xs)), I1.laid (t' := s1.toks) (fun b u e => Heap.get?_push_of_some _ e) (Nat.le_refl _) ?_, rfl, q _ _ (I1.hok.fresh (Nat.le_refl _)) ?_⟩
  · exact ⟨Heap.get?_push_size _ rfl, z, us, r, ⟨_, Heap.get?_push_size _ rfl, rfl, _, rfl⟩⟩
  · rfl
/-- t + u, the new one told -/
def rCatF (K : PySem.W.Frag) : R2 := fun x y H Q => ∃ a b xs ys, x = .ref a ∧ y = .ref b ∧ SqT K H a xs ∧ SqT K H b ys ∧ xs.length + ys.length ≤ sizeLine ∧
  (xs = [] → Q (.ref b) H) ∧ (xs ≠ [] → ys = [] → Q (.ref a) H) ∧ (xs ≠ [] → ys ≠ [] → ∀ (p : Addr) (ob : Obj), H p = none → ob.dict = none → Q (.ref p) (upd H p (.frz ob (.tup (xs ++ ys)))))
theorem op_catF : OpR X (binaryOp .Add) (rCatF X.K) := by
  intro pins s σ H x y v u Q I rx ry h
  obtain ⟨a, b, xs, ys, rfl, rfl, ha, hb, hz, q0, q1, q2⟩ := h
  cases rx
  cases ry
  obtain ⟨its, r1, p1, _⟩ := I.tuple ha
  obtain ⟨its2, r2, p2, _⟩ := I.tuple hb
  by_cases hx : xs = []
  · subst hx
    cases r1
    exact cat_tup0 p1 p2 ⟨.ref b, H, I, rfl, q0 rfl⟩
  refine HT.cat_tup p1 p2 (fun z => hx (r1.nil_iff.mp z)) (fun z => ⟨.ref a, H, I, rfl, q1 hx (r2.nil_iff.mp z)⟩) (fun z => ?_) (by rw [← r1.length, ← r2.length]; exact hz)
  refine ⟨.ref s.heap.objs.size, _, I.laid (t' := s.toks) (o := .frz { cls := .type "tuple", data := .seq (its ++ its2).toArray } (.tup (xs ++ ys))) (fun b ob q => Heap.get?_push_of_some _ q) (Nat.le_refl _) ?_, rfl, q2 hx (fun w => z (r2.nil_iff.mpr w)) _ _ (I.hok.fresh (Nat.le_refl _)) ?_⟩
  · exact ⟨Heap.get?_push_size _ rfl, by rw [List.length_append]; exact hz, _, r1.append r2, IsTup.new _ _⟩
  · rfl
end
section
variable {P : Program} {w : World} {K : PySem.W.Frag} {mg : Str → Option Value} {base : Heap}
theorem SqT.ofF {H : Hp} {a : Addr} {xs : List V} {ob : Obj} (h : H a = some (.frz ob (.tup xs))) : SqT K H a xs := .inl (.inr ⟨ob, h⟩)
theorem catA (K : PySem.W.Frag) {X : Cx} (hK : X.K = K := by rfl) : OpR X (binaryOp .Add) (rCatF K) := by subst hK; exact op_catF
def spRows : Sp := fun vs H Q _ => ∃ n : Nat, vs = [.int n] ∧ n ≤ 5 ∧ ∀ (p : Addr) (ys : List V) (H' : Hp), Same H H' → H p = none → H' p = some (.lst ys) → ys.length = 2 ^ n → (∀ y ∈ ys, RowV H' n y) → Q (.ref p) H'
theorem cl_rows (D : Df K mg "rows_of" "rows_of" "rows_of" s_rows_of ["count"]) (T : Tx mg) (cC : Cl P w K mg base CX0 1 "crossed" (spCrossed (K := K))) : Cl P w K mg base CX0 2 "rows_of" spRows := by
  refine D.ok c_rows_of (fun vs H Q E h => ?_) fun f cdv A outer s H vs Q E hr h => ?_
  · obtain ⟨n, rfl, _⟩ := h
    rfl
  obtain ⟨n, rfl, hn, k⟩ := h
  refine ⟨_, pss_cons (ps_set (i := 1) c_rows_of.nd rfl (Or.inl rfl) (pe_lst (pa_cons (pe_tupF pa_nil) pa_nil)))
    (pss_cons (ps_for PassesOwn.never rfl (pi_range1 rfl T.range (pa_cons (pv 0) pa_nil)) (pg_name (i := 2) c_rows_of.nd rfl (Or.inl rfl))
      (pss_one (ps_setLc (i := 1) (own := [("row", 3), ("truth", 4)]) rfl c_rows_of.nd rfl rfl rfl (pi_list (pe_c0 cC hr (by omega) (pa_cons (pv 1) pa_nil))) (blkOk_by (own := [("row", 3), ("truth", 4)]) (N := ["count", "rows", "k", "row", "truth"]) (sc := defScope s_rows_of) (by decide +kernel))
          (fun _ _ _ _ _ => pgT K (n := 2) rfl (pgs_cons (pg_name (i := 3) c_rows_of.nd rfl (Or.inl rfl)) (pgs_cons (pg_name (i := 4) c_rows_of.nd rfl (Or.inl rfl)) pgs_nil))) (fun _ _ _ _ _ => pts_nil) (fun _ _ _ _ _ => pe_op (catA K) (pv 3) (pe_tupF (pa_cons (pv 4) pa_nil))))))
    (pss_one (ps_ret (pv 1)))), ?_⟩
  refine ⟨sz (n := 0) (by decide), fun e ob0 ne nd0 => ⟨sz (n := 1) (by decide), fun L nL => ?_⟩⟩
  have g1 := same_new ne (.frz ob0 (.tup []))
  have g2 := same_new nL (.lst [.ref e])
  have h0 : ∀ y ∈ [V.ref e], RowV (upd (upd H e (.frz ob0 (.tup []))) L (.lst [.ref e])) 0 y := by
    intro y hy
    rw [List.mem_singleton.mp hy]
    exact ⟨e, [], ob0, rfl, g2 _ _ upd_same, nd0, rfl⟩
  refine ⟨_, rfl, _, rfl, by omega, by omega, ?_⟩
  rw [Int.toNat_natCast]
  refine for_it walk_range (fun i σ H2 => ∃ (o : Option V) (L : Addr) (ys : List V), σ = [some (.int n), some (.ref L), o, none, none] ∧ Same H H2 ∧ H L = none ∧ H2 L = some (.lst ys) ∧ ys.length = 2 ^ i ∧ ∀ y ∈ ys, RowV H2 i y)
    ⟨none, L, _, rfl, g1.trans g2, g1.free nL, upd_same, rfl, h0⟩ (fun _ _ _ _ _ => trivial) (fun i v σ H2 H3 hi h hy => ?_) fun σ H2 h => ?_
  · obtain ⟨o, L1, ys, rfl, g, nL1, hL1, hl, hR⟩ := h
    obtain ⟨rfl, rfl⟩ := hy
    have h32 : 2 ^ i ≤ 2 ^ 4 := Nat.pow_le_pow_right (by decide) (by omega)
    refine ⟨_, rfl, L1, ys, i, rfl, SqL.of hL1, hR, by omega, fun p zs H4 g4 np hp hzl hz => ⟨p, rfl, ⟨_, SqL.of hp⟩, fun D nD => ?_⟩⟩
    refine lc_on (as := zs) (fun _ => true) (fun _ y H => RowV H (i + 1) y) (SqL.of hp) rfl (by omega) nD (fun _ y H H' acc hD ex q => q.exc hD ex) (fun j z u H5 acc C C' hz1 hu s1 hD hC _ => ?_) fun ws H5 s1 hD hy => ?_
    · rw [hz1] at hu
      injection hu with hu
      subst hu
      obtain ⟨q, row, b, rfl, hq, q2, bs, ob2, rfl, hq2, hd2, hbs⟩ := (hz z (List.mem_of_getElem? hz1)).mono s1
      refine ⟨q, _, rfl, SqT.of hq, rfl, _, _, rfl, _, _, rfl, rfl, rfl, q_yes _ _ ⟨_, rfl, _, rfl, sz (n := 1) (by decide), fun p1 ob1 np1 nd1 => ?_⟩⟩
      have g6 := same_new np1 (.frz ob1 (.tup [.bl b]))
      refine ⟨q2, p1, _, _, rfl, rfl, SqT.ofF (g6 _ _ hq2), SqT.ofF upd_same, sz (by rw [List.length_map]; simp; omega), fun e => ?_, fun _ e => (by cases e), fun _ _ p2 ob3 np2 nd3 => ?_⟩
      · have e0 : bs = [] := List.map_eq_nil_iff.mp e
        subst e0
        exact hC rfl _ _ g6 ⟨p1, [b], ob1, rfl, upd_same, nd1, by rw [← hbs]; rfl⟩
      · exact hC rfl _ _ (g6.trans (same_new np2 _)) ⟨p2, bs ++ [b], ob3, rfl, by rw [upd_same, List.map_append]; rfl, nd3, by rw [List.length_append, hbs]; rfl⟩
    · rw [filter_true] at hy
      have hyl := Paired.len hy
      refine ⟨_, D, ws, rfl, g.trans (g4.trans s1), g.free (g4.free nD), hD, by rw [← hyl, hzl, hl, Nat.pow_succ, Nat.mul_comm], fun y hym => ?_⟩
      obtain ⟨j, hj⟩ := List.mem_iff_getElem?.mp hym
      have hjl : j < zs.length := by rw [hyl]; exact (List.getElem?_eq_some_iff.mp hj).1
      exact paired_get hy j _ y (List.getElem?_eq_getElem hjl) hj
  · obtain ⟨o, L1, ys, rfl, g, nL1, hL1, hl, hR⟩ := h
    exact ⟨_, rfl, k L1 ys H2 g nL1 hL1 hl hR⟩
end
end SD
namespace SD
open PySem PySem.Spec PyProof.Rows L2 SX
section
variable {P : Program} {w : World} {K : PySem.W.Frag} {mg : Str → Option Value} {base : Heap}
theorem at_bl {bs : List Bool} {i : Nat} (h : i < bs.length) : atI (bs.map V.bl) (i : Int) = some (.bl bs[i]) := atI_nat (by rw [List.getElem?_map, List.getElem?_eq_getElem h]; rfl)
def spBears : Sp := fun vs H Q _ => ∃ (a b c : Addr) (i : Nat) (bs is ss : List Bool), vs = [.ref a, .ref b, .int i, .ref c] ∧ SqT K H a (bs.map V.bl) ∧ SqL K H b (is.map V.bl) ∧ SqT K H c (ss.map V.bl) ∧ bs.length = ss.length ∧ is.length = ss.length ∧ i < ss.length ∧ ss.length ≤ 100 ∧ ∀ r : Bool, Q (.bl r) H
theorem cl_bears (D : Df K mg "bears" "bears" "bears" s_bears ["room", "inner", "at", "shown"]) (T : Tx mg) : Cl P w K mg base CX0 1 "bears" (spBears (K := K)) := by
  refine D.ok c_bears (fun vs H Q E h => ?_) fun f cdv A outer s H vs Q E hr h => ?_
  · obtain ⟨a, b, c, i, bs, is, ss, rfl, _⟩ := h
    rfl
  obtain ⟨a, b, c, i, bs, is, ss, rfl, ha, hb, hc, l1, l2, hi, hz, k⟩ := h
  refine ⟨_, pss_cons (ps_if (PW.pt (pw_or (pt_not (pt_val (pe_ix ix_tup (pv 0) (pv 2) (fun _ _ => rfl)))) (pw_or1 (pt_val (pe_ix ix_list (pv 1) (pv 2) (fun _ _ => rfl)))))) (pss_one (ps_ret pe_bl)) pss_nil)
    (pss_cons (ps_for PassesOwn.never rfl (pi_range1 rfl T.range (pa_cons (pe_callB call_len_seq rfl T.len PySem.boot_len (pa_cons (pv 3) pa_nil)) pa_nil)) (pg_name (i := 4) c_bears.nd rfl (Or.inl rfl))
      (pss_one (ps_if (PW.pt (pw_and (pt_val (pe_ix ix_tup (pv 3) (pv 4) (fun _ _ => rfl))) (pw_and1 (pt_not (PW.pt (pw_and (pt_val (pe_ix ix_tup (pv 0) (pv 4) (fun _ _ => rfl))) (pw_and1 (pt_val (pe_ix ix_list (pv 1) (pv 4) (fun _ _ => rfl)))))))))) (pss_one (ps_ret pe_bl)) pss_nil)))
    (pss_one (ps_ret pe_bl))), ?_⟩
  have go : ∀ σ : L2.St, σ = [some (.ref a), some (.ref b), some (.int i), some (.ref c), none] → tSeq (tFor (iRng1 (tCons (tCB (fun xs H Q => ∃ p ys, xs = [.ref p] ∧ (SqL K H p ys ∨ SqT K H p ys) ∧ Q (.int ys.length) H) (tCons (tVar 3) tNil)) tNil)) (gName 4) (tIfS (tAnd (tB (tOp (rIxT K) (tVar 3) (tVar 4))) (tNot (tAnd (tB (tOp (rIxT K) (tVar 0) (tVar 4))) (tB (tOp (rIxL K) (tVar 1) (tVar 4)))))) (tRet (tC (.bl false))) tNext)) (tRet (tC (.bl true))) { nx := fun _ H' => Q .non H', rt := Q } σ H := by
    rintro σ rfl
    refine ⟨_, rfl, c, _, rfl, .inr hc, _, rfl, by omega, by rw [List.length_map]; omega, ?_⟩
    rw [Int.toNat_natCast, List.length_map]
    refine for_it walk_range (fun _ σ H2 => H2 = H ∧ ∃ o : Option V, σ = [some (.ref a), some (.ref b), some (.int i), some (.ref c), o]) ⟨rfl, _, rfl⟩ (fun _ _ _ _ _ => trivial) (fun j v σ H2 H3 hj h hy => ?_) fun σ H2 h => ?_
    · obtain ⟨rfl, o, rfl⟩ := h
      obtain ⟨rfl, e⟩ := hy
      have e : v = .int (j : Int) := by rw [e]; show V.int (0 + (j : Int)) = _; rw [Int.zero_add]
      subst e
      refine ⟨_, rfl, _, rfl, c, _, _, _, rfl, rfl, hc, at_bl hj, _, rfl, ite2 (fun _ => ?_) fun _ => ite2 (fun z => absurd z Bool.false_ne_true) fun _ => ⟨rfl, _, rfl⟩⟩
      refine ⟨_, rfl, _, rfl, a, _, _, _, rfl, rfl, ha, at_bl (by omega), _, rfl, ite2 (fun _ => ?_) fun _ => ite2 (fun _ => k _) fun z => absurd rfl z⟩
      exact ⟨_, rfl, _, rfl, b, _, _, _, rfl, rfl, hb, at_bl (by omega), _, rfl, ite2 (fun _ => k _) fun _ => ⟨rfl, _, rfl⟩⟩
    · obtain ⟨rfl, o, rfl⟩ := h
      exact k _
  refine ⟨_, rfl, _, rfl, a, _, _, _, rfl, rfl, ha, at_bl (by omega), _, rfl, ite2 (fun _ => ite2 (fun _ => k _) fun z => absurd rfl z) fun _ => ?_⟩
  refine ⟨_, rfl, _, rfl, b, _, _, _, rfl, rfl, hb, at_bl (by omega), _, rfl, ite2 (fun _ => k _) fun _ => go _ rfl⟩
/-- what is known: a row and a list of truths -/
def KnowV (K : PySem.W.Frag) (H : Hp) (n : Nat) (y : V) : Prop := ∃ (q a b : Addr) (bs is : List Bool), y = .ref q ∧ H q = some (.tup [.ref a, .ref b]) ∧ SqT K H a (bs.map V.bl) ∧ H b = some (.lst (is.map V.bl)) ∧ bs.length = n ∧ is.length = n
def spCan : Sp := fun vs H Q _ => ∃ (c kn : Addr) (ks : List V) (ss : List Bool), vs = [.ref c, .ref kn] ∧ SqT K H c (ss.map V.bl) ∧ SqL K H kn ks ∧ (∀ y ∈ ks, KnowV K H ss.length y) ∧ ss.length ≤ 100 ∧ ∀ r : Bool, Q (.bl r) H
theorem cl_can (D : Df K mg "can_be" "can_be" "can_be" s_can_be ["shown", "known"]) (T : Tx mg) (cB : Cl P w K mg base CX0 1 "bears" (spBears (K := K))) : Cl P w K mg base CX0 2 "can_be" (spCan (K := K)) := by
  refine D.ok c_can_be (fun vs H Q E h => ?_) fun f cdv A outer s H vs Q E hr h => ?_
  · obtain ⟨c, kn, ks, ss, rfl, _⟩ := h
    rfl
  obtain ⟨c, kn, ks, ss, rfl, hc, hS, hK, hz, k⟩ := h
  refine ⟨_, pss_cons (ps_for PassesOwn.never rfl (pi_range1 rfl T.range (pa_cons (pe_callB call_len_seq rfl T.len PySem.boot_len (pa_cons (pv 0) pa_nil)) pa_nil)) (pg_name (i := 2) c_can_be.nd rfl (Or.inl rfl))
      (pss_one (ps_if (pt_not (pt_val (pe_ix ix_tup (pv 0) (pv 2) (fun _ _ => rfl))))
        (pss_cons (ps_set (i := 3) c_can_be.nd rfl (Or.inl rfl) pe_bl)
        (pss_cons (ps_for PassesOwn.never rfl (pi_list (pv 1)) (pg_tup rfl (pgs_cons (pg_name (i := 4) c_can_be.nd rfl (Or.inl rfl)) (pgs_cons (pg_name (i := 5) c_can_be.nd rfl (Or.inl rfl)) pgs_nil)))
          (pss_one (ps_if (pt_val (pe_c0 cB hr (by omega) (pa_cons (pv 4) (pa_cons (pv 5) (pa_cons (pv 2) (pa_cons (pv 0) pa_nil)))))) (pss_cons (ps_set (i := 3) c_can_be.nd rfl (Or.inl rfl) pe_bl) (pss_one ps_break)) pss_nil)))
        (pss_one (ps_if (pt_not (pt_val (pv 3))) (pss_one (ps_ret pe_bl)) pss_nil)))) pss_nil)))
    (pss_one (ps_ret pe_bl)), ?_⟩
  refine ⟨_, rfl, c, _, rfl, .inr hc, _, rfl, by omega, by rw [List.length_map]; omega, ?_⟩
  rw [Int.toNat_natCast, List.length_map]
  refine for_it walk_range (fun _ σ H2 => H2 = H ∧ ∃ o2 o3 o4 o5 : Option V, σ = [some (.ref c), some (.ref kn), o2, o3, o4, o5]) ⟨rfl, _, _, _, _, rfl⟩ (fun _ _ _ _ _ => trivial) (fun j v σ H2 H3 hj h hy => ?_) fun σ H2 h => ?_
  · obtain ⟨rfl, o2, o3, o4, o5, rfl⟩ := h
    obtain ⟨rfl, e⟩ := hy
    have e : v = .int (j : Int) := by rw [e]; show V.int (0 + (j : Int)) = _; rw [Int.zero_add]
    subst e
    refine ⟨_, rfl, _, rfl, c, _, _, _, rfl, rfl, hc, at_bl hj, _, rfl, ite2 (fun _ => ?_) fun _ => ⟨rfl, _, _, _, _, rfl⟩⟩
    refine ⟨_, rfl, kn, rfl, ⟨_, hS⟩, ?_⟩
    refine for_list (K := K) (a := kn) (xs := ks) (fun _ σ H2 => H2 = H3 ∧ ∃ o4 o5 : Option V, σ = [some (.ref c), some (.ref kn), some (.int (j : Int)), some (.bl false), o4, o5]) ⟨rfl, _, _, rfl⟩ (fun _ _ _ _ h => by rw [h.1]; exact hS) (fun m u σ H2 hm h => ?_) fun σ H2 h => ?_
    · obtain ⟨rfl, p4, p5, rfl⟩ := h
      obtain ⟨q, a, b, bs, is, rfl, hq, ha, hb, l1, l2⟩ := hK u (List.mem_of_getElem? hm)
      refine ⟨q, _, rfl, SqT.of hq, rfl, _, _, rfl, _, _, rfl, rfl, ?_⟩
      refine ⟨_, rfl, _, rfl, _, rfl, _, rfl, a, b, c, j, bs, is, ss, rfl, ha, SqL.of hb, hc, l1, l2, hj, hz, fun r => ⟨r, rfl, ?_⟩⟩
      cases r with
      | false => exact ite2 (fun z => absurd z Bool.false_ne_true) fun _ => ⟨rfl, _, _, rfl⟩
      | true => exact ite2 (fun _ => ⟨_, rfl, _, rfl, ite2 (fun z => absurd z Bool.false_ne_true) fun _ => ⟨rfl, _, _, _, _, rfl⟩⟩) fun z => absurd rfl z
    · obtain ⟨rfl, p4, p5, rfl⟩ := h
      exact ⟨_, rfl, _, rfl, ite2 (fun _ => k _) fun z => absurd rfl z⟩
  · obtain ⟨rfl, o2, o3, o4, o5, rfl⟩ := h
    exact k _
end
end SD
namespace SD
open PySem PySem.Spec PyProof.Rows L2 SX
/-- the first place with p -/
theorem first_at {α : Type} {p : α → Bool} : ∀ {l : List α}, (∃ x ∈ l, p x = true) → ∃ (j : Nat) (z : α), l[j]? = some z ∧ p z = true ∧ ∀ (m : Nat) (z' : α), m < j → l[m]? = some z' → p z' = false
  | [], ⟨x, h, _⟩ => by cases h
  | a :: l, ⟨x, h, hp⟩ => by
    cases ha : p a with
    | true => exact ⟨0, a, rfl, ha, fun m z' hm => absurd hm (Nat.not_lt_zero m)⟩
    | false =>
      rcases List.mem_cons.mp h with rfl | h
      · rw [ha] at hp; cases hp
      obtain ⟨j, z, h1, h2, h3⟩ := first_at (l := l) ⟨x, h, hp⟩
      refine ⟨j + 1, z, h1, h2, fun m z' hm hz => ?_⟩
      cases m with
      | zero => injection hz with hz; rw [← hz]; exact ha
      | succ m => exact h3 m z' (by omega) hz
theorem dpAll_app {K : PySem.W.Frag} {H : Hp} : ∀ {xs ys : List V} {ds es : List PyData}, DpAll K H xs ds → DpAll K H ys es → DpAll K H (xs ++ ys) (ds ++ es)
  | _, _, _, _, .nil, h => h
  | _, _, _, _, .cons a t, h => .cons a (dpAll_app t h)
theorem lay_app : ∀ {ds es : List PyData}, PyData.canLayAll0 ds = true → PyData.canLayAll0 es = true → PyData.canLayAll0 (ds ++ es) = true
  | [], _, _, h => h
  | d :: ds, es, h, h2 => by
    simp only [PyData.canLayAll0, Bool.and_eq_true] at h
    simp only [List.cons_append, PyData.canLayAll0, Bool.and_eq_true]
    exact ⟨h.1, lay_app h.2 h2⟩
section
variable {X : Cx}
/-- l.index(x), data of any depth that the room allows: the first place of an equal one -/
def rIndexDD (K : PySem.W.Frag) : V → List V → Hp → VK → Prop := fun x xs H Q => ∃ (a : Addr) (y : V) (ys : List V) (d : PyData) (ds : List PyData), x = V.ref a ∧ xs = [y] ∧ SqL K H a ys ∧ DpAll K H ys ds ∧ Dp K H y d ∧
  PyData.canLayAll0 ds = true ∧ d.canLay0 = true ∧ d.depth ≤ 180 ∧ (∃ z ∈ ds, PyData.eqv z d = true) ∧ ∀ j : Nat, j < ds.length → Q (.int (j : Nat)) H
theorem mt_indexDD {k : Nat} (hr : Room k X.A) : MtR X "list.index" (rIndexDD X.K) := by
  intro pins s σ H x xs v us Q I rx rxs h
  obtain ⟨a, y, ys, d, ds, rfl, rfl, hs, hd, hy, sl, sd, hdep, hex, q⟩ := h
  obtain ⟨j, z, hz, hzj, hno⟩ := first_at hex
  cases rx
  obtain ⟨uy, rfl, ry⟩ := rxs.one
  obtain ⟨bs, r1⟩ := Dp.reads I d y uy hy ry
  obtain ⟨its, rv, ⟨⟨cls, dd, data, sls⟩, n, ho, hc, hdn, hdt⟩, hlen⟩ := I.list hs
  simp only at hc hdt
  subst hc hdt
  obtain ⟨as, h4⟩ := Dp.readsAll I ds _ its hd rv
  have hn : its.length = ds.length := SeqAt.ReadsAll.length ds its as h4
  have hmap : its.map (SeqAt.readOf s.heap) = ds := SeqAt.readsAll_map ds its as sl h4
  have hvl := rv.length
  have hjd : j < ds.length := (List.getElem?_eq_some_iff.mp hz).1
  have here : ∀ (m : Nat) (hm : m < its.toArray.size), ds[m]? = some (SeqAt.readOf s.heap its.toArray[m]) := fun m hm => by
    have hml : m < its.length := by simpa using hm
    rw [← hmap, List.getElem?_map, List.getElem?_eq_getElem hml]
    simp
  have hj : j < its.toArray.size := by simpa [hn] using hjd
  refine call_meets PySem.F.slot_list_index ⟨_, ho, rfl⟩ PySem.F.entry_list_index (PySem.F.args_list_index_2 _ _)
    (SeqAt.list_indexAt a its.toArray n dd sls uy (fun u => PyData.eqv (SeqAt.readOf s.heap u) d) j hj (by have := sizeLine_eq; omega) ?_ fun m hm hmj => hno m _ hmj (here m hm))
    ⟨ho, SeqAt.items_eqAt (vs := its.toArray) (show ReadsAll s.heap its.toArray.toList ds as from h4) r1 sl sd (by have := hr.un; omega), ⟨.int (j : Nat), H, I.tok _, ⟨_, rfl⟩, q j hjd⟩⟩
  have e := here j hj
  rw [hz] at e
  injection e with e
  show PyData.eqv (SeqAt.readOf s.heap its.toArray[j]) d = true
  rw [← e]; exact hzj
end
section
variable {P : Program} {w : World} {K : PySem.W.Frag} {mg : Str → Option Value} {base : Heap}
/-- what a kind tells of all that stands in x -/
def Known (x : Say) (ls : List Ltr) (ts : List Say) : Prop := (∀ c, .letter c ∈ x.parts → c ∈ ls) ∧ ∀ t ∈ x.parts, t.isShown = true → t ∈ ts
def spByKind (n : Nat) : Sp := fun vs H Q _ => ∃ (v : V) (b q : Addr) (x : Say) (ls : List Ltr) (ts : List Say) (ys : List V) (bs : List Bool), vs = [v, .ref b, .ref q] ∧ SayAt H x v ∧ x.ht < n ∧ x.ht ≤ 150 ∧ SqL K H b (ls.map (fun c => V.str c.str) ++ ys) ∧ SaysAt H ts ys ∧ Known x ls ts ∧
  SqT K H q (bs.map V.bl) ∧ bs.length = ls.length + ts.length ∧ ∀ r : Bool, Q (.bl r) H
theorem cl_by_kind (D : Df K mg "by_kind" "by_kind" "by_kind" s_by_kind ["saying", "things", "kind"]) : ∀ n : Nat, Cl P w K mg base CX0 (n + 1) "by_kind" (spByKind (K := K) n)
  | 0 => D.no fun vs H Q E h => by
    obtain ⟨v, b, q, x, ls, ts, ys, bs, _, _, hh, _⟩ := h
    omega
  | n + 1 => by
    have ih := cl_by_kind D n
    refine D.ok c_by_kind (fun vs H Q E h => ?_) fun f cdv A outer s H vs Q E hr h => ?_
    · obtain ⟨v, b, q, x, ls, ts, ys, bs, rfl, _⟩ := h
      rfl
    obtain ⟨v, b, q, x, ls, ts, ys, bs, rfl, hx, hh, hh2, hS, hts, hk, hq, hl, k⟩ := h
    refine ⟨_, pss_cons (ps_set (i := 3) c_by_kind.nd rfl (Or.inl rfl) (pe_ix ix_tup (pv 0) pe_int (fun _ _ => rfl)))
      (pss_cons (ps_if (pt_cmpR op_eq (pv 3) pe_str (nomark _)) (pss_one (ps_ret pe_bl)) pss_nil)
      (pss_cons (ps_if (pt_cmpR op_eq (pv 3) pe_str (nomark _)) (pss_one (ps_ret (pe_ix ix_tup (pv 2) (pe_bm PySem.F.plainAttrs_list PySem.F.slot_list_index PySem.F.type_list_index (mt_indexDD hr) (pv 1) (pa_cons (pe_ix ix_tup (pv 0) pe_int (fun _ _ => rfl)) pa_nil)) (fun _ _ => rfl)))) pss_nil)
      (pss_cons (ps_if (pt_cmpR op_eq (pv 3) pe_str (nomark _)) (pss_one (ps_ret (pe_ix ix_tup (pv 2) (pe_bm PySem.F.plainAttrs_list PySem.F.slot_list_index PySem.F.type_list_index (mt_indexDD hr) (pv 1) (pa_cons (pv 0) pa_nil)) (fun _ _ => rfl)))) pss_nil)
      (pss_cons (ps_if (pt_cmpR op_eq (pv 3) pe_str (nomark _)) (pss_one (ps_ret (pe_not (pe_c0 ih hr (by omega) (pa_cons (pe_ix ix_tup (pv 0) pe_int (fun _ _ => rfl)) (pa_cons (pv 1) (pa_cons (pv 2) pa_nil))))))) pss_nil)
      (pss_cons (ps_set (i := 4) c_by_kind.nd rfl (Or.inl rfl) (pe_c0 ih hr (by omega) (pa_cons (pe_ix ix_tup (pv 0) pe_int (fun _ _ => rfl)) (pa_cons (pv 1) (pa_cons (pv 2) pa_nil)))))
      (pss_cons (ps_if (pt_cmpR op_eq (pv 3) pe_str (nomark _)) (pss_one (ps_ret (pe_and (pv 4) (pe_one (pe_c0 ih hr (by omega) (pa_cons (pe_ix ix_tup (pv 0) pe_int (fun _ _ => rfl)) (pa_cons (pv 1) (pa_cons (pv 2) pa_nil)))))))) pss_nil)
      (pss_cons (ps_if (pt_cmpR op_eq (pv 3) pe_str (nomark _)) (pss_one (ps_ret (pe_or (pv 4) (pe_one (pe_c0 ih hr (by omega) (pa_cons (pe_ix ix_tup (pv 0) pe_int (fun _ _ => rfl)) (pa_cons (pv 1) (pa_cons (pv 2) pa_nil)))))))) pss_nil)
      (pss_one (ps_ret (pe_or (pe_not (pv 4)) (pe_one (pe_c0 ih hr (by omega) (pa_cons (pe_ix ix_tup (pv 0) pe_int (fun _ _ => rfl)) (pa_cons (pv 1) (pa_cons (pv 2) pa_nil))))))))))))))), ?_⟩
    have hdp : DpAll K H (ls.map (fun c => V.str c.str) ++ ys) (ls.map (fun c => PyData.str c.str) ++ ts.map Say.data) := dpAll_app (strs_dp ls) hts.dps
    have hlay : PyData.canLayAll0 (ls.map (fun c => PyData.str c.str) ++ ts.map Say.data) = true := lay_app (strs_lay ls) (Say.datas_lay ts)
    have hdl : (ls.map (fun c => PyData.str c.str) ++ ts.map Say.data).length = bs.length := by rw [List.length_append, List.length_map, List.length_map, hl]
    refine q_word rfl hx ?_
    refine q_slot rfl (ite2 (fun _ => k _) fun c1 => ?_)
    refine q_slot rfl (ite2 (fun c2 => ?_) fun c2 => ?_)
    · have e := word_letter.mp (of_decide_eq_true c2)
      cases x <;> simp [Say.isLetter] at e
      rename_i l
      obtain ⟨r, rfl, hr2⟩ := id hx
      have hm : l ∈ ls := hk.1 l (by simp [Say.parts])
      refine ⟨_, rfl, _, rfl, .inl ⟨rfl, _, hS⟩, q_ix rfl hr2 at1 ⟨b, _, _, .str l.str, _, rfl, rfl, hS, hdp, .str _, hlay, by simp [PyData.canLay0, lstr_ok], by simp [PyData.depth], ⟨.str l.str, List.mem_append.mpr (.inl (List.mem_map.mpr ⟨l, hm, rfl⟩)), by rw [eqv_str]; exact decide_eq_true rfl⟩, fun j hj => ⟨q, _, j, _, rfl, rfl, hq, at_bl (by omega), k _⟩⟩⟩
    refine q_slot rfl (ite2 (fun c3 => ?_) fun c3 => ?_)
    · have e := word_shown.mp (of_decide_eq_true c3)
      have hm : x ∈ ts := hk.2 x (by cases x <;> simp [Say.parts]) e
      refine ⟨_, rfl, _, rfl, .inl ⟨rfl, _, hS⟩, _, rfl, b, v, _, x.data, _, rfl, rfl, hS, hdp, hx.dp, hlay, Say.data_lay x, by rw [Say.data_depth]; omega, ⟨x.data, List.mem_append.mpr (.inr (List.mem_map.mpr ⟨x, hm, rfl⟩)), by rw [Say.eqv]; exact decide_eq_true rfl⟩, fun j hj => ⟨q, _, j, _, rfl, rfl, hq, at_bl (by omega), k _⟩⟩
    refine q_slot rfl (ite2 (fun c4 => ?_) fun c4 => ?_)
    · obtain ⟨s1, rfl⟩ := word_not.mp (of_decide_eq_true c4)
      obtain ⟨p, y, rfl, hp, hy⟩ := hx
      simp only [Say.ht] at hh hh2
      have hk1 : Known s1 ls ts := ⟨fun c h => hk.1 c (by simp [Say.parts, h]), fun t h => hk.2 t (by simp [Say.parts, h])⟩
      refine q_ix rfl hp at1 ⟨_, rfl, _, rfl, y, b, q, s1, ls, ts, ys, bs, rfl, hy, by omega, by omega, hS, hts, hk1, hq, hl, fun r => ⟨r, rfl, k _⟩⟩
    have hbin : ∃ o s1 s2, x = .bin o s1 s2 := by
      cases x with
      | no => exact absurd (decide_eq_true rfl) c1
      | letter => exact absurd (decide_eq_true rfl) c2
      | neg s1 => exact absurd (decide_eq_true rfl) c4
      | shown s1 => exact absurd (decide_eq_true rfl) c3
      | bin o s1 s2 => exact ⟨o, s1, s2, rfl⟩
    obtain ⟨o, s1, s2, rfl⟩ := hbin
    obtain ⟨p, y, z, rfl, hp, hy, hz⟩ := hx
    simp only [Say.ht] at hh hh2
    have hk1 : Known s1 ls ts := ⟨fun c h => hk.1 c (by simp [Say.parts, h]), fun t h => hk.2 t (by simp [Say.parts, h])⟩
    have hk2 : Known s2 ls ts := ⟨fun c h => hk.1 c (by simp [Say.parts, h]), fun t h => hk.2 t (by simp [Say.parts, h])⟩
    refine q_ix rfl hp at1 ⟨_, rfl, _, rfl, y, b, q, s1, ls, ts, ys, bs, rfl, hy, by omega, by omega, hS, hts, hk1, hq, hl, fun r1 => ?_⟩
    refine q_slot rfl (ite2 (fun _ => ⟨_, rfl, r1, rfl, ite2 (fun _ => ?_) fun _ => k _⟩) fun _ => ?_)
    · exact q_ix rfl hp at2 ⟨_, rfl, _, rfl, z, b, q, s2, ls, ts, ys, bs, rfl, hz, by omega, by omega, hS, hts, hk2, hq, hl, fun r2 => k _⟩
    refine q_slot rfl (ite2 (fun _ => ⟨_, rfl, r1, rfl, ite2 (fun _ => k _) fun _ => ?_⟩) fun _ => ⟨_, rfl, r1, rfl, _, rfl, ite2 (fun _ => k _) fun _ => ?_⟩)
    · exact q_ix rfl hp at2 ⟨_, rfl, _, rfl, z, b, q, s2, ls, ts, ys, bs, rfl, hz, by omega, by omega, hS, hts, hk2, hq, hl, fun r2 => k _⟩
    · exact q_ix rfl hp at2 ⟨_, rfl, _, rfl, z, b, q, s2, ls, ts, ys, bs, rfl, hz, by omega, by omega, hS, hts, hk2, hq, hl, fun r2 => k _⟩
end
end SD
namespace SD
open PySem PySem.Spec PyProof.Rows L2 SX
/-! # the key: lambda row: row.count(False) -/
section
variable {P : Program} {w : World} {A : Around} {s : Shared}
/-- the key's call, on the heap alone -/
theorem row_key {f l c' : Addr} {q : Str} {params : Arguments} {scope : Scope} {pm ctv : Value} {cl : List (Str × Addr)} {vs : Array Value} {xs : List PyData} {as : List Addr} {p1 p2 p3 p4 : Pos} {j : Nat}
    (ho : s.heap.get? f = some (PySem.W.kla_obj "<lambda>" q params (.Call (.Attribute (.Name "row" p1) "count" p2) [.Constant (.bool false) j p3] [] p4) scope cl pm c' ctv))
    (hsc : scope = { kind := .function, names := [("row", .local)], isGenerator := false, isCoroutine := false }) (hcd : s.heap.CodeRec (.ref c') q) (hnl : s.heap.NoLimit)
    (hbind : bindArgs (PySem.W.kla_fn "<lambda>" q params (.Call (.Attribute (.Name "row" p1) "count" p2) [.Constant (.bool false) j p3] [] p4) scope cl pm (.ref c') ctv) ⟨[.ref l], []⟩ = pure ([("row", Value.ref l)] : List (Str × Value)))
    (hline : (p2.endLine == p4.line) = true)
    (hl : s.heap.IsTuple l vs) (rs : ReadsAll s.heap vs.toList xs as) (hxs : PyData.plainAll xs = true) (hnd : ∀ o, s.heap.get? l = some o → o.dict = none) (hroom : A.depth < recursionLimit) (hu : A.units + 20 < cLine) :
    wpAny (model P w) A (call (.ref f) [.ref l]) (PySem.W.KeyPure (.int ((xs.countP fun y => PyData.eqv y (.bool false) : Nat) : Int)) s) (fun _ _ => False) s := by
  subst hsc
  refine wpAny_call (codeAny_mono (R := fun r s' => ∃ u, r = .ok (.ret u) ∧ PySem.W.KeyPure (.int ((xs.countP fun y => PyData.eqv y (.bool false) : Nat) : Int)) s u s') ?_ fun r s' hr => ?_)
  rotate_left
  · obtain ⟨u, rfl, k⟩ := hr
    exact k
  refine PySem.W.kla_callFunE hroom ho rfl rfl rfl rfl hcd ?_
  rw [hbind]
  refine wpAny_pure (wpAny_newFunctionEnv (fun y hy => by simp at hy; rw [hy]; intro z; cases z) (fun y hy => by simp at hy; rw [hy]; rfl) (fun h₁ hns hsb => ⟨?_, ?_⟩) rfl)
  · exact hnl.fresh _ hsb
  have kp : ∀ b o, s.heap.get? b = some o → h₁.get? b = some o := fun b o e => hsb.extBut b o (Nat.ne_of_lt (Heap.lt_size e)) (Heap.get?_push_of_some _ e)
  refine PySem.W.kla_codeExpr ?_
  refine wpAny_Call_method_late rfl rfl hline rfl (wpAny_Name (wpAny_loadName_local rfl rfl hns rfl ?_) (by decide +kernel))
  refine ⟨"tuple", "tuple.count", PySem.F.plainAttrs_tuple, PySem.F.slot_tuple_count, PySem.F.type_tuple_count, ?_, ?_, ?_⟩
  · obtain ⟨o, h1, h2, _⟩ := hl
    exact ⟨o, kp _ _ h1, h2⟩
  · intro a e
    cases e
    obtain ⟨o, h1, h2, _⟩ := hl
    exact ⟨o, kp _ _ h1, hnd o h1⟩
  · refine Calls.callWith_builtin rfl (Calls.evalArgs_plain ?_)
    show wpAny _ _ (spliced ((false, eval (.Constant (.bool false) j p3) _) :: [])) _ _ _
    refine Calls.spliced_cons (Constant_bool (Calls.spliced_nil ?_))
    refine SeqAt.count_tuple_data (let ⟨o, h, r⟩ := hl; ⟨o, kp _ _ h, r⟩) (PyProof.Rows.ReadsAll.keeps kp rs) (.bool false) hxs rfl (by show A.units + 3 + 1 + _ < _; have : min (PyData.depthAll xs) (PyData.bool false).depth ≤ 1 := Nat.le_trans (Nat.min_le_right _ _) (by simp [PyData.depth]); omega) ?_
    exact ⟨_, rfl, h₁, _, rfl, kp, .int _ _⟩
end
section
/-- a value that is such a row -/
def RowR (H : Hp) (n : Nat) (v : Value) (b : List Bool) : Prop := ∃ (q : Addr) (ob : Obj), v = .ref q ∧ H q = some (.frz ob (.tup (b.map V.bl))) ∧ ob.dict = none ∧ b.length = n
theorem rows_data {H : Hp} {n : Nat} : ∀ {ys : List V} {vs : List Value}, Vals ys vs → (∀ y ∈ ys, RowV H n y) → ∃ bss : List (List Bool), bss.length = ys.length ∧ PySem.W.EachIs (RowR H n) vs bss
  | _, _, .nil, _ => ⟨[], rfl, .nil⟩
  | _, _, .cons (a := y) r t, h => by
    obtain ⟨q, bs, ob, rfl, h1, h2, h3⟩ := h _ List.mem_cons_self
    obtain ⟨bss, h4, h5⟩ := rows_data t fun y hy => h y (List.mem_cons_of_mem _ hy)
    exact ⟨bs :: bss, by simp [h4], .cons ⟨q, ob, r, h1, h2, h3⟩ h5⟩
theorem data_rows {H : Hp} {n : Nat} : ∀ {vs : List Value} {bss : List (List Bool)}, PySem.W.EachIs (RowR H n) vs bss → ∃ ys : List V, Vals ys vs ∧ ys.length = bss.length ∧ ∀ y ∈ ys, RowV H n y
  | _, _, .nil => ⟨[], .nil, rfl, fun y hy => by cases hy⟩
  | _, _, .cons (b := b) ⟨q, ob, e, h1, h2, h3⟩ t => by
    obtain ⟨ys, h4, h5, h6⟩ := data_rows t
    refine ⟨.ref q :: ys, .cons e h4, by simp [h5], fun y hy => ?_⟩
    rcases List.mem_cons.mp hy with rfl | hy
    · exact ⟨q, b, ob, rfl, h1, h2, h3⟩
    · exact h6 y hy
theorem bls_reads {h : Heap} : ∀ bs : List Bool, ∃ as, ReadsAll h (bs.map Value.bool) (bs.map PyData.bool) as
  | [] => ⟨_, .nil⟩
  | b :: bs => let ⟨as, r⟩ := bls_reads (h := h) bs; ⟨_, .cons (.bool b) r⟩
theorem bls_plain : ∀ bs : List Bool, PyData.plainAll (bs.map PyData.bool) = true
  | [] => rfl
  | b :: bs => by rw [List.map_cons, PyData.plainAll, bls_plain bs]; rfl
end
section
variable {X : Cx}
/-- the number of False -/
def kRow (b : List Bool) : PyData := .int (((b.map PyData.bool).countP fun y => PyData.eqv y (.bool false) : Nat) : Int)
/-- sorted(rows, key=lambda row: row.count(False)) -/
def sortOf (K : PySem.W.Frag) (pT : Addr) (qT : Str) (Q : VK) : V → Hp → Prop := fun x H1 => ∃ (a : Addr) (ys : List V) (n : Nat), x = .ref a ∧ SqL K H1 a ys ∧ (∀ y ∈ ys, RowV H1 n y) ∧ ys.length ≤ 100 ∧ LamX.TabS H1 pT qT ∧
  ∀ (p : Addr) (zs : List V) (H2 : Hp), LamX.ExtN H1 H2 → LamX.TabS H2 pT qT → H2 p = some (.lst zs) → zs.length = ys.length → (∀ z ∈ zs, RowV H2 n z) → Q (.ref p) H2
def oneOf (φ : V → Hp → Prop) : List V → Hp → Prop
  | [x], H => φ x H
  | _, _ => False
theorem oneOf.to {φ : V → Hp → Prop} : ∀ {vs : List V} {H : Hp}, oneOf φ vs H → ∃ x, vs = [x] ∧ φ x H
  | [x], _, h => ⟨x, rfl, h⟩
  | [], _, h => h.elim
  | _ :: _ :: _, _, h => h.elim
def tSortK (K : PySem.W.Frag) (pT : Addr) (qT : Str) (te : TE) : TE := fun σ H Q => te σ H (sortOf K pT qT Q)
theorem pe_sortedRow {c pT : Addr} {k : Nat} {e : Expr} {te : TE} {params : Arguments} {scope : Scope} {p pos kpos lpos p1 p2 p3 p4 : Pos} {j : Nat} (hr : Room k X.A) (hg : Gl X "sorted") (hm : X.mg "sorted" = none)
    (TB : LamX.TabB X.base X.mg c pT) (hcode : X.env.code = .ref c) (hdef : defaultsOf params X.env = ([], [])) (hsc : scope = { kind := .function, names := [("row", .local)], isGenerator := false, isCoroutine := false })
    (hbind : ∀ (q : Str) (cl : List (Str × Addr)) (pm cv ctv : Value) (l : Addr), bindArgs (PySem.W.kla_fn "<lambda>" q params (.Call (.Attribute (.Name "row" p1) "count" p2) [.Constant (.bool false) j p3] [] p4) scope cl pm cv ctv) ⟨[.ref l], []⟩ = pure ([("row", Value.ref l)] : List (Str × Value)))
    (hline : (p2.endLine == p4.line) = true) (he : PE X e te)
    (hs0 : starEach [e] X.env = (false, eval e X.env) :: starEach [] X.env := by rfl) (hs : backTo pos (starEach [e] X.env) = (false, eval e X.env) :: backTo pos (starEach [] X.env) := by rfl) (hpl : (backTo pos (starEach [e] X.env)).any (·.1) = false := by rfl) :
    PE X (.Call (.Name "sorted" p) [e] [⟨some "key", .Lambda params (.Call (.Attribute (.Name "row" p1) "count" p2) [.Constant (.bool false) j p3] [] p4) scope lpos, kpos⟩] pos) (tSortK X.K pT (X.env.qual ++ "<lambda>") te) := by
  refine ⟨fun pins s σ H Q I h => ?_⟩
  refine wpAny_Call_Name_kw (ld_blt I hg hm (show bootBuiltins (Str.ofString "sorted") = some (.builtin "sorted") by decide +kernel) ?_ (by decide) (by decide))
  refine PyProof.Rows.callWith_kw (thn ((pa_cons he pa_nil hs0).run pos pins s σ H (oneOf (sortOf X.K pT (X.env.qual ++ "<lambda>") Q)) I h) fun us s1 ⟨vs, H1, I1, r1, q1⟩ => ?_) hs hpl rfl rfl
  obtain ⟨x, rfl, q1⟩ := oneOf.to q1
  obtain ⟨a, ys, n, rfl, hS, hR, hz, hT, q⟩ := q1
  obtain rfl := Vals.ref1 r1
  show wpAny _ _ (evalAll ((do let v ← eval (.Lambda params (.Call (.Attribute (.Name "row" p1) "count" p2) [.Constant (.bool false) j p3] [] p4) scope lpos) X.env; standAt pos; pure v) :: [])) _ _ s1
  refine wpAny_evalAll_cons (wpAny_bind (LamX.lam_make2 (T := [(pT, X.env.qual ++ "<lambda>")]) I1 TB hcode List.mem_cons_self (fun p hp _ => by rw [List.mem_singleton.mp hp]) (fun p hp => by rw [List.mem_singleton.mp hp]; exact hT) hdef (fun y hy z => by subst hsc; rw [List.mem_singleton.mp hy] at z; cases z) ?_))
  intro f c' pm ctv H2 s2 I2 ex2 hT2 hf nf nfr hc'
  refine wpAny_bind (wpAny_standAt (wpAny_pure (wpAny_evalAll_nil ?_)))
  show wpAny _ _ (call (.builtin "sorted") [.ref a] [(Str.ofString "key", .ref f)]) _ _ s2
  have hS2 : SqL X.K H2 a ys := by
    rcases hS with (h | ⟨ob, h⟩) | h
    · exact .inl (.inl (ex2 _ _ h (fun ps z => by cases z)))
    · exact .inl (.inr ⟨ob, ex2 _ _ h (fun ps z => by cases z)⟩)
    · exact .inr h
  have hR2 : ∀ y ∈ ys, RowV H2 n y := fun y hy => by
    obtain ⟨q, bs, ob, e, h1, h2⟩ := hR y hy
    exact ⟨q, bs, ob, e, ex2 _ _ h1 (fun ps z => by cases z), h2⟩
  obtain ⟨its, rv, hl, hz2⟩ := I2.list hS2
  obtain ⟨bss, hb1, hb2⟩ := rows_data rv hR2
  obtain ⟨⟨oc, fvs, tc, hc1, hc2, hc3⟩, _⟩ := I2.hok c' _ hc'
  refine PySem.W.sorted_key_data (b := false) kRow hl.isList hb2 (PySem.W.AllAlike.of fun _ _ => by simp [PySem.W.alike, kRow]) (Or.inr fun d hd => ?_) (by rw [hb1]; exact hz2) (fun b _ => by have := hr.un; have : (kRow b).depth = 0 := rfl; omega)
    (PyProof.Rows.ksk_s1 _ _) (fun _ => PyProof.Rows.ksk_l1 _ _) (fun _ => PyProof.Rows.ksk_t1 _ _) (fun v b ⟨q, ob, e, h1, h2, h3⟩ _ h tk kp => ?_) fun out cc h' tk kp _ hD hlen eo => ?_
  · obtain ⟨b, _, rfl⟩ := List.mem_map.mp hd
    exact ⟨fun z => (by cases z), fun xs z => (by cases z)⟩
  · subst e
    obtain ⟨hob, hzl, its3, rv3, o3, ho3, hcl3, n3, hd3⟩ := I2.hok q _ h1
    have e3 := Vals.bls rv3
    subst e3
    obtain ⟨as, ra⟩ := bls_reads (h := h) b
    have hroom := hr.dp
    have hun := hr.un
    refine row_key (s := { s2 with heap := h, toks := tk }) (kp _ _ hf) hsc ⟨c', oc, fvs, tc, rfl, kp _ _ hc1, hc2, hc3⟩ (I2.nolimit.keeps kp) (hbind _ _ _ _ _ q) hline ⟨o3, kp _ _ ho3, hcl3, n3, hd3⟩ ra (bls_plain b) (fun o ho => ?_) (by show X.A.depth < _; omega) (by show X.A.units + 1 + 1 + 20 < _; omega)
    have ho : h.get? q = some o := ho
    rw [kp _ _ hob] at ho
    injection ho with ho
    rw [← ho]; exact h2
  · obtain ⟨zs, hz1, hz2', hz3⟩ := data_rows eo
    have hlz : zs.length = ys.length := by rw [hz2', List.length_mergeSort, hb1]
    have np : H2 (s2.heap.objs.size + 1) = none := I2.hok.fresh (Nat.le_succ _)
    have g := same_new np (.lst zs)
    refine ⟨.ref _, upd H2 (s2.heap.objs.size + 1) (.lst zs), I2.laid (t' := tk) kp (Nat.le_succ _) ⟨by rw [hlz]; omega, out, cc, hz1, hD⟩, rfl, ?_⟩
    exact q _ zs _ (ex2.trans (LamX.ExtN.of g)) ((hT2 _ List.mem_cons_self).ext g) upd_same hlz fun z hz => (hz3 z hz).mono g
/-! # sorted(found) -/
/-- such a tuple of n truths, frozen or not -/
def FRow (K : PySem.W.Frag) (H : Hp) (n : Nat) (y : V) : Prop := ∃ (q : Addr) (bs : List Bool), y = .ref q ∧ SqT K H q (bs.map V.bl) ∧ bs.length = n
def FRr (K : PySem.W.Frag) (H : Hp) (n : Nat) (v : Value) (b : List Bool) : Prop := ∃ q : Addr, v = .ref q ∧ SqT K H q (b.map V.bl) ∧ b.length = n
theorem SqT.mono {K : PySem.W.Frag} {H H' : Hp} {a : Addr} {xs : List V} (g : Same H H') (h : SqT K H a xs) : SqT K H' a xs := by
  rcases h with (h | ⟨ob, h⟩) | h
  · exact .inl (.inl (g _ _ h))
  · exact .inl (.inr ⟨ob, g _ _ h⟩)
  · exact .inr h
theorem FRow.mono {K : PySem.W.Frag} {H H' : Hp} {n : Nat} {y : V} (g : Same H H') (h : FRow K H n y) : FRow K H' n y := by
  obtain ⟨q, bs, e, h1, h2⟩ := h
  exact ⟨q, bs, e, SqT.mono g h1, h2⟩
theorem frow_data {K : PySem.W.Frag} {H : Hp} {n : Nat} : ∀ {ys : List V} {vs : List Value}, Vals ys vs → (∀ y ∈ ys, FRow K H n y) → ∃ bss : List (List Bool), bss.length = ys.length ∧ PySem.W.EachIs (FRr K H n) vs bss ∧ ∀ b ∈ bss, b.length = n
  | _, _, .nil, _ => ⟨[], rfl, .nil, fun b hb => by cases hb⟩
  | _, _, .cons (a := y) r t, h => by
    obtain ⟨q, bs, rfl, h1, h2⟩ := h _ List.mem_cons_self
    obtain ⟨bss, h4, h5, h6⟩ := frow_data t fun y hy => h y (List.mem_cons_of_mem _ hy)
    refine ⟨bs :: bss, by simp [h4], .cons ⟨q, r, h1, h2⟩ h5, fun b hb => ?_⟩
    rcases List.mem_cons.mp hb with rfl | hb
    · exact h2
    · exact h6 b hb
theorem data_frow {K : PySem.W.Frag} {H : Hp} {n : Nat} : ∀ {vs : List Value} {bss : List (List Bool)}, PySem.W.EachIs (FRr K H n) vs bss → ∃ ys : List V, Vals ys vs ∧ ys.length = bss.length ∧ ∀ y ∈ ys, FRow K H n y
  | _, _, .nil => ⟨[], .nil, rfl, fun y hy => by cases hy⟩
  | _, _, .cons (b := b) ⟨q, e, h1, h2⟩ t => by
    obtain ⟨ys, h4, h5, h6⟩ := data_frow t
    refine ⟨.ref q :: ys, .cons e h4, by simp [h5], fun y hy => ?_⟩
    rcases List.mem_cons.mp hy with rfl | hy
    · exact ⟨q, b, rfl, h1, h2⟩
    · exact h6 y hy
/-- such a list as data -/
def eRow (b : List Bool) : PyData := .tuple (b.map PyData.bool)
theorem alike_bls : ∀ a b : List Bool, PySem.W.alikeAll (a.map PyData.bool) (b.map PyData.bool) = true
  | [], _ => by simp [PySem.W.alikeAll]
  | _ :: _, [] => by simp [PySem.W.alikeAll]
  | x :: a, y :: b => by simp [PySem.W.alikeAll, PySem.W.alike, alike_bls a b]
theorem depth_bls : ∀ b : List Bool, PyData.depthAll (b.map PyData.bool) = 0
  | [] => rfl
  | x :: b => by simp [PyData.depthAll, PyData.depth, depth_bls b]
def rSortR (K : PySem.W.Frag) : List V → Hp → VK → Prop := fun vs H Q => ∃ (a : Addr) (ys : List V) (n : Nat), vs = [V.ref a] ∧ SqL K H a ys ∧ (∀ y ∈ ys, FRow K H n y) ∧ (n = 0 → ys.length ≤ 1) ∧
  ∀ (p : Addr) (zs : List V), H p = none → zs.length = ys.length → (∀ z ∈ zs, FRow K H n z) → Q (.ref p) (upd H p (.lst zs))
theorem cr_sortedR {k : Nat} (hr : Room k X.A) : CallR X (.builtin "sorted") (rSortR X.K) := by
  intro pins s σ H vs us Q I r h
  obtain ⟨a, ys, n, rfl, hS, hR, h0, q⟩ := h
  obtain rfl := Vals.ref1 r
  obtain ⟨its, rv, hl, hz⟩ := I.list hS
  obtain ⟨bss, hb1, hb2, hb3⟩ := frow_data rv hR
  have hil := rv.length
  have fin : ∀ (out : List Value) (css : List (List Bool)), css.length = bss.length → PySem.W.EachIs (FRr X.K H n) out css → EP X pins σ Q (.ref (s.heap.objs.size + 1)) { s with heap := PyProof.Rows.sortedAll s.heap its out.toArray } := by
    intro out css hc eo
    obtain ⟨zs, z1, z2, z3⟩ := data_frow eo
    have hlz : zs.length = ys.length := by rw [z2, hc, hb1]
    obtain ⟨ep, he⟩ := PyProof.Rows.sortedAll_at s.heap its out.toArray
    exact ⟨.ref _, upd H (s.heap.objs.size + 1) (.lst zs), I.laid (t' := s.toks) (fun _ _ => PyProof.Rows.sortedAll_old) (Nat.le_succ _) ⟨by rw [hlz]; exact hz, out, ep, z1, he⟩, rfl, q _ _ (I.hok.fresh (Nat.le_succ _)) hlz z3⟩
  by_cases hn : n = 0
  · have h1 := h0 hn
    refine Srt.sorted_any hl.isList (by rw [← hil]; exact hz) (fun h2 => by omega) fun out hp => fin out bss rfl ?_
    have e : out = its := by
      rcases its with _ | ⟨v, _ | ⟨v2, r⟩⟩
      · exact List.perm_nil.mp hp
      · exact List.perm_singleton.mp hp
      · simp at hil; omega
    rw [e]; exact hb2
  · have c1 : PySem.W.EachIs (fun v b => ∃ as, Reads s.heap v (eRow b) as) its bss := hb2.mono fun v b hv => by
      obtain ⟨q, e, h1, h2⟩ := hv
      subst e
      obtain ⟨its3, rv3, ht, _⟩ := I.tuple h1
      have e3 := Vals.bls rv3
      subst e3
      obtain ⟨as, ra⟩ := bls_reads (h := s.heap) b
      obtain ⟨o3, ho3, hc3, n3, hd3⟩ := ht
      exact ⟨_, .tuple ho3 hc3 hd3 (by simpa using ra)⟩
    have c2 : PySem.W.AllAlike (bss.map eRow) := PySem.W.AllAlike.of fun b b' => by
      show PySem.W.alike (.tuple _) (.tuple _) = true
      rw [PySem.W.alike]; exact alike_bls _ _
    have c3 : PySem.W.Sortable (bss.map eRow) := Or.inl fun d hd => by
      obtain ⟨b, hb, rfl⟩ := List.mem_map.mp hd
      have := hb3 b hb
      cases b with
      | nil => exact absurd this.symm hn
      | cons x b => exact ⟨_, _, rfl⟩
    have c4 : ∀ b, b ∈ bss → X.A.units + 2 + (eRow b).depth < cLine := fun b _ => by
      have hd : (eRow b).depth ≤ 1 := by simp [eRow, PyData.depth, depth_bls]
      have := hr.un
      omega
    exact PySem.W.sorted_data hl.isList hb2 c1 c2 c3 (by rw [hb1]; exact hz) c4 fun out hlo eo => fin out _ (List.length_mergeSort _) eo
end
end SD
namespace SD
open PySem PySem.Spec PyProof.Rows L2 SX
/-- a def whose code object is known -/
structure Dc (K : PySem.W.Frag) (mg : Str → Option Value) (x nm qual : Str) (st : Stmt) (ps : List Str) (c : Addr) : Prop where
  ex : ∃ (f : Addr) (fd : FuncData), FunD K nm qual (defArgs st) (defBody st) (defScope st) [] [] f fd ∧ mg x = some (.ref f) ∧ Binds K fd ps [] ∧ fd.code = .ref c
section
variable {P : Program} {w : World} {K : PySem.W.Frag} {mg : Str → Option Value} {base : Heap} {k : Nat} {x nm qual : Str} {st : Stmt} {N ps : List Str} {sp : Sp} {c : Addr}
theorem Dc.okX (D : Dc K mg x nm qual st ps c) (S : FnScope N ps (defScope st)) (len : ∀ vs H Q E, sp vs H Q E → vs.length = ps.length)
    (hbody : ∀ (f : Addr) (A : Around) (outer : List Env) (s : Shared) (H : Hp) (vs : List V) (Q : VK) (E : XK), Room k (A.deeper (envOfC qual (defScope st) s.heap.objs.size f (.ref c))) → sp vs H Q E →
      ∃ t, PSs (cxOf (L2.CX P w) P w K mg base N qual (defScope st) f (.ref c) A outer s H E) (defBody st) t ∧ t { nx := fun _ H' => Q .non H', rt := Q } (start N vs) H) : Cl P w K mg base (L2.CX P w) (k + 1) x sp := by
  obtain ⟨f, fd, F, m, b, hc⟩ := D.ex
  have kp := F.kp
  obtain ⟨oc, od, dV, kV, doc, pm, an, cdv, ct, osl, rfl, lk, hcd, _, _⟩ := F.ex
  have e : cdv = .ref c := hc
  subst e
  exact ⟨f, _, ps, fn_of lk hcd S len fun A outer s H vs Q E hr h => hbody f A outer s H vs Q E hr h, m, kp, b⟩
end
/-! # two lists that grow -/
section
variable {K : PySem.W.Frag}
theorem SqT.exc {H H' : Hp} {a D : Addr} {xs ys : List V} (hD : H D = some (.lst ys)) (g : Exc D H H') (h : SqT K H a xs) : SqT K H' a xs := by
  rcases h with (h | ⟨ob, h⟩) | h
  · exact .inl (.inl (g _ _ (ne_of h hD (by intro z; cases z)) h))
  · exact .inl (.inr ⟨ob, g _ _ (ne_of h hD (by intro z; cases z)) h⟩)
  · exact .inr h
theorem FRow.exc {H H' : Hp} {n : Nat} {y : V} {D : Addr} {ys : List V} (hD : H D = some (.lst ys)) (g : Exc D H H') (h : FRow K H n y) : FRow K H' n y := by
  obtain ⟨q, bs, e, h1, h2⟩ := h
  exact ⟨q, bs, e, SqT.exc hD g h1, h2⟩
/-- what is known, its list other than F and N -/
def KnowW (K : PySem.W.Frag) (H : Hp) (n : Nat) (F N : Addr) (y : V) : Prop := ∃ (q a b : Addr) (bs is : List Bool), y = .ref q ∧ H q = some (.tup [.ref a, .ref b]) ∧ SqT K H a (bs.map V.bl) ∧ H b = some (.lst (is.map V.bl)) ∧ bs.length = n ∧ is.length = n ∧ b ≠ F ∧ b ≠ N
theorem KnowW.v {H : Hp} {n : Nat} {F N : Addr} {y : V} (h : KnowW K H n F N y) : KnowV K H n y := by
  obtain ⟨q, a, b, bs, is, h1, h2, h3, h4, h5, h6, _⟩ := h
  exact ⟨q, a, b, bs, is, h1, h2, h3, h4, h5, h6⟩
theorem KnowW.mono {H H' : Hp} {n : Nat} {F N : Addr} {y : V} (g : Same H H') (h : KnowW K H n F N y) : KnowW K H' n F N y := by
  obtain ⟨q, a, b, bs, is, h1, h2, h3, h4, h5, h6, h7⟩ := h
  exact ⟨q, a, b, bs, is, h1, g _ _ h2, SqT.mono g h3, g _ _ h4, h5, h6, h7⟩
theorem KnowW.exc {H H' : Hp} {n : Nat} {F N D : Addr} {y : V} {ys : List V} (hD : H D = some (.lst ys)) (e : D = F ∨ D = N) (g : Exc D H H') (h : KnowW K H n F N y) : KnowW K H' n F N y := by
  obtain ⟨q, a, b, bs, is, h1, h2, h3, h4, h5, h6, h7, h8⟩ := h
  have hb : b ≠ D := by rcases e with rfl | rfl <;> assumption
  exact ⟨q, a, b, bs, is, h1, g _ _ (ne_of h2 hD (by intro z; cases z)) h2, SqT.exc hD g h3, g _ _ hb h4, h5, h6, h7, h8⟩
def Two (K : PySem.W.Frag) (H5 : Hp) (F N : Addr) (n np : Nat) (fs ns : List V) (H : Hp) : Prop := Same H5 H ∧ H F = some (.lst fs) ∧ H N = some (.lst ns) ∧ (∀ y ∈ fs, FRow K H n y) ∧ (∀ y ∈ ns, KnowW K H np F N y)
variable {H5 H H' : Hp} {F N : Addr} {n np : Nat} {fs ns : List V} {y : V}
theorem Two.mono (h : Two K H5 F N n np fs ns H) (g : Same H H') : Two K H5 F N n np fs ns H' :=
  ⟨h.1.trans g, g _ _ h.2.1, g _ _ h.2.2.1, fun y hy => (h.2.2.2.1 y hy).mono g, fun y hy => (h.2.2.2.2 y hy).mono g⟩
theorem Two.addF (h : Two K H5 F N n np fs ns H) (nF : H5 F = none) (hne : F ≠ N) (hy : FRow K H n y) : Two K H5 F N n np (fs ++ [y]) ns (upd H F (.lst (fs ++ [y]))) := by
  obtain ⟨h1, h2, h3, h4, h5⟩ := h
  have ex : Exc F H (upd H F (.lst (fs ++ [y]))) := fun b o hb q => by rw [upd_ne hb]; exact q
  refine ⟨fun b o q => ex _ _ (ne_of_none q nF) (h1 _ _ q), upd_same, ex _ _ hne.symm h3, fun z hz => ?_, fun z hz => (h5 z hz).exc h2 (.inl rfl) ex⟩
  rcases List.mem_append.mp hz with hz | hz
  · exact (h4 z hz).exc h2 ex
  · rw [List.mem_singleton.mp hz]; exact hy.exc h2 ex
theorem Two.addN (h : Two K H5 F N n np fs ns H) (nN : H5 N = none) (hne : F ≠ N) (hy : KnowW K H np F N y) : Two K H5 F N n np fs (ns ++ [y]) (upd H N (.lst (ns ++ [y]))) := by
  obtain ⟨h1, h2, h3, h4, h5⟩ := h
  have ex : Exc N H (upd H N (.lst (ns ++ [y]))) := fun b o hb q => by rw [upd_ne hb]; exact q
  refine ⟨fun b o q => ex _ _ (ne_of_none q nN) (h1 _ _ q), ex _ _ hne h2, upd_same, fun z hz => (h4 z hz).exc h3 ex, fun z hz => ?_⟩
  rcases List.mem_append.mp hz with hz | hz
  · exact (h5 z hz).exc h3 (.inr rfl) ex
  · rw [List.mem_singleton.mp hz]; exact hy.exc h3 (.inr rfl) ex
theorem rCatF.of {a b : Addr} {xs ys : List V} {H : Hp} {Q : VK} (ha : SqT K H a xs) (hb : SqT K H b ys) (hz : xs.length + ys.length ≤ sizeLine) (k : ∀ (p : Addr) (H' : Hp), Same H H' → SqT K H' p (xs ++ ys) → Q (.ref p) H') : rCatF K (.ref a) (.ref b) H Q := by
  refine ⟨a, b, xs, ys, rfl, rfl, ha, hb, hz, fun e => ?_, fun _ e => ?_, fun _ _ p ob np _ => ?_⟩
  · subst e; exact k b H (Same.refl _) hb
  · subst e; exact k a H (Same.refl _) (by rw [List.append_nil]; exact ha)
  · exact k p _ (same_new np _) (SqT.ofF upd_same)
theorem paired_bls {α : Type} {R : α → V → Prop} (hR : ∀ x y, R x y → ∃ b : Bool, y = .bl b) : ∀ {xs : List α} {ys : List V}, Paired R xs ys → ∃ bs : List Bool, ys = bs.map V.bl ∧ bs.length = xs.length
  | _, _, .nil => ⟨[], rfl, rfl⟩
  | _, _, .cons h t => by
    obtain ⟨b, rfl⟩ := hR _ _ h
    obtain ⟨bs, rfl, e⟩ := paired_bls hR t
    exact ⟨b :: bs, rfl, by simp [e]⟩
theorem RowV.extN {H H' : Hp} {n : Nat} {y : V} (g : LamX.ExtN H H') (h : RowV H n y) : RowV H' n y := by
  obtain ⟨q, bs, ob, e, h1, h2⟩ := h
  exact ⟨q, bs, ob, e, g _ _ h1 (fun ps z => by cases z), h2⟩
theorem RowV.f {H : Hp} {n : Nat} {y : V} (h : RowV H n y) : FRow K H n y := by
  obtain ⟨q, bs, ob, e, h1, _, h2⟩ := h
  exact ⟨q, bs, e, SqT.ofF h1, h2⟩
theorem known_of {x t : Say} {ts : List Say} (ht : t ∈ x.parts) (hts : ∀ u, u ∈ ts ↔ u ∈ x.parts ∧ u.isShown = true) : Known t (lets x) ts := by
  refine ⟨fun c hc => ?_, fun u hu hs => (hts u).mpr ⟨Say.parts_trans ht hu, hs⟩⟩
  have hc2 : .letter c ∈ x.parts := Say.parts_trans ht hc
  unfold lets
  rw [List.mem_filter]
  exact ⟨by cases c <;> simp, (Say.has_iff c x).mpr hc2⟩
end
abbrev qKinds : Str := (envOfC "kinds_of" (defScope s_kinds_of) 0 0 Value.none).qual ++ "<lambda>"
section
variable {P : Program} {w : World} {K : PySem.W.Frag} {mg : Str → Option Value} {base : Heap}
theorem cl_kinds {c pT : Addr} (D : Dc K mg "kinds_of" "kinds_of" "kinds_of" s_kinds_of ["saying"] c) (T : Tx mg) (TB : LamX.TabB base mg c pT) (cTh : Cl P w K mg base CX0 155 "things_of" spThings) (cS : Cl P w K mg base CX0 154 "shown_parts" spShown)
    (cR : Cl P w K mg base CX0 2 "rows_of" spRows) (cC : Cl P w K mg base CX0 2 "can_be" (spCan (K := K))) (cB : ∀ n : Nat, Cl P w K mg base CX0 (n + 1) "by_kind" (spByKind (K := K) n)) (iM : ∃ t, mg "MOST_SHOWN_kinds" = some (.int 5 t)) (X : Xc K mg "TooMany") :
    Cl P w K mg base (L2.CX P w) 190 "kinds_of" (spKinds (K := K) pT qKinds) := by
  refine D.okX c_kinds_of (fun vs H Q E h => ?_) fun f A outer s H vs Q E hr h => ?_
  · obtain ⟨v, x, rfl, _⟩ := h
    rfl
  obtain ⟨v, x, rfl, hx, hh, hz, hT, hmm, kM, kQ⟩ := h
  obtain ⟨tM, mM⟩ := iM
  have cB := cB 130
  refine ⟨_, pss_cons (ps_set (i := 1) c_kinds_of.nd rfl (Or.inr rfl) (pe_c0 cTh hr (by omega) (pa_cons (pv 0) pa_nil)))
    (pss_cons (ps_set (i := 2) c_kinds_of.nd rfl (Or.inl rfl) (pe_c0 cS hr (by omega) (pa_cons (pv 0) pa_nil)))
    (pss_cons (ps_if (pt_cmpR op_gt (pe_callB call_len_seq rfl T.len PySem.boot_len (pa_cons (pv 2) pa_nil)) (pe_glob (v := .int 5) rfl mM ⟨tM, rfl⟩) (nomark _)) (pss_one (ps_raise rfl (takes_of rfl rfl rfl rfl) (pmk0 X))) pss_nil)
    (pss_cons (ps_set (i := 3) c_kinds_of.nd rfl (Or.inl rfl) (pe_c0 cR hr (by omega) (pa_cons (pe_op op_sub (pe_callB call_len_seq rfl T.len PySem.boot_len (pa_cons (pv 1) pa_nil)) (pe_callB call_len_seq rfl T.len PySem.boot_len (pa_cons (pv 2) pa_nil))) pa_nil)))
    (pss_cons (ps_set (i := 4) c_kinds_of.nd rfl (Or.inl rfl) (pe_sortedRow hr rfl T.sorted TB rfl rfl rfl (fun _ _ _ _ _ _ => rfl) rfl (pe_c0 cR hr (by omega) (pa_cons (pe_callB call_len_seq rfl T.len PySem.boot_len (pa_cons (pv 2) pa_nil)) pa_nil))))
    (pss_cons (ps_set (i := 5) c_kinds_of.nd rfl (Or.inl rfl) (pe_lst pa_nil))
    (pss_cons (ps_set (i := 6) c_kinds_of.nd rfl (Or.inl rfl) (pe_lst pa_nil))
    (pss_cons (ps_for (passes_of rfl) rfl (pi_list (pv 4)) (pg_name (i := 7) c_kinds_of.nd rfl (Or.inl rfl))
      (pss_one (ps_if (pt_val (pe_c0 cC hr (by omega) (pa_cons (pv 7) (pa_cons (pv 6) pa_nil))))
        (pss_one (ps_for (passes_of rfl) rfl (pi_list (pv 3)) (pg_name (i := 8) c_kinds_of.nd rfl (Or.inl rfl))
          (pss_cons (ps_set (i := 9) c_kinds_of.nd rfl (Or.inr rfl) (pe_op op_catF (pv 8) (pv 7)))
          (pss_cons (ps_expr (pe_bm PySem.F.plainAttrs_list PySem.F.slot_list_append PySem.F.type_list_append mt_append (pv 5) (pa_cons (pv 9) pa_nil)))
          (pss_one (ps_expr (pe_bm PySem.F.plainAttrs_list PySem.F.slot_list_append PySem.F.type_list_append mt_append (pv 6) (pa_cons (pe_tup (pa_cons (pv 7) (pa_cons
            (pe_lc (own := [("part", 10)]) (g := gName 10) rfl c_kinds_of.nd (pi_list (pv 2)) (blkOk_by (own := [("part", 10)]) (N := ["saying", "things", "parts", "marks", "rest", "found", "known", "shown", "letters", "kind", "part"]) (sc := defScope s_kinds_of) (by decide +kernel))
              (fun _ _ _ _ _ => pg_name (i := 10) c_kinds_of.nd rfl (Or.inl rfl)) (fun _ _ _ _ _ => pts_nil) (fun _ _ _ _ _ => pe_c0 cB hr (by omega) (pa_cons (pe_ix (ixT K) (pv 10) pe_int (fun _ _ => rfl)) (pa_cons (pv 1) (pa_cons (pv 9) pa_nil))))) pa_nil))) pa_nil))))))))
        pss_nil)))
    (pss_one (ps_ret (pe_callB (cr_sortedR hr) rfl T.sorted (by decide +kernel) (pa_cons (pv 5) pa_nil))))))))))), ?_⟩
  refine ⟨_, rfl, v, x, rfl, hx, by omega, hz, fun a1 ys1 ts1 H1 g1 n1 ha1 hts1 up1 hm1 => ?_⟩
  refine ⟨_, rfl, v, x, rfl, hx.mono g1, by omega, hz, fun a2 ys2 ts2 H2 g2 n2 ha2 hts2 up2 hm2 => ?_⟩
  have e1 : ts1.length = many x := many_eq (up_nodup up1) hm1
  have e2 : ts2.length = many x := many_eq (up_nodup up2) hm2
  have l1 := Paired.len hts1
  have l2 := Paired.len hts2
  have hll : (lets x).length ≤ 3 := List.length_filter_le _ _
  refine ⟨_, rfl, a2, ys2, rfl, .inl (SqL.of ha2), _, _, rfl, rfl, _, rfl, ite2 (fun cc => ?_) fun cc => ?_⟩
  · have c' : ((ys2.length : Nat) : Int) > 5 := of_decide_eq_true cc
    exact kM (by omega) _ _ _ (g1.trans g2) ⟨rfl, rfl⟩
  have c' : ¬ ((ys2.length : Nat) : Int) > 5 := fun z => cc (decide_eq_true z)
  have hm4 : many x < 4 := by omega
  have kQ := kQ hm4
  refine ⟨_, rfl, a1, _, rfl, .inl (SqL.of (g2 _ _ ha1)), _, rfl, a2, ys2, rfl, .inl (SqL.of ha2), _, _, rfl, rfl, (lets x).length, ?_, by omega, fun p3 rs3 H3 g3 n3 ha3 hl3 hR3 => ?_⟩
  · have : ((((lets x).map (fun c => V.str c.str) ++ ys1).length : Nat) : Int) - ((ys2.length : Nat) : Int) = (((lets x).length : Nat) : Int) := by
      rw [List.length_append, List.length_map]; omega
    exact congrArg (fun z => [V.int z]) this
  refine ⟨_, rfl, a2, ys2, rfl, .inl (SqL.of (g3 _ _ ha2)), ys2.length, rfl, by omega, fun p4 rs4 H4 g4 n4 ha4 hl4 hR4 => ⟨p4, rs4, ys2.length, rfl, SqL.of ha4, hR4, ?_, hT.ext ((g1.trans g2).trans (g3.trans g4)), fun p5 zs H5 x5 hT5 ha5 hl5 hR5 => ?_⟩⟩
  · rw [hl4]
    exact Nat.le_trans (Nat.pow_le_pow_right (by decide) (show ys2.length ≤ 3 by omega)) (by decide)
  have pw3 : 2 ^ (lets x).length ≤ 2 ^ 3 := Nat.pow_le_pow_right (by decide) hll
  have pw4 : 2 ^ ys2.length ≤ 2 ^ 3 := Nat.pow_le_pow_right (by decide) (by omega)
  have hzl : zs.length ≤ 8 := by rw [hl5, hl4]; exact pw4
  have hml : rs3.length ≤ 8 := by rw [hl3]; exact pw3
  -- all that stands in H5
  have xb : ∀ {b : Addr} {o : HO}, H1 b = some o → (∀ ps, o ≠ .tbl ps) → H5 b = some o := fun {b o} z n => x5 _ _ (g4 _ _ (g3 _ _ (g2 _ _ z))) n
  have x1 : LamX.ExtN H1 H5 := fun b o z n => xb z n
  have x2 : LamX.ExtN H2 H5 := fun b o z n => x5 _ _ (g4 _ _ (g3 _ _ z)) n
  have x3 : LamX.ExtN H3 H5 := fun b o z n => x5 _ _ (g4 _ _ z) n
  have b1 := x1 _ _ ha1 (fun ps z => by cases z)
  have b2 := x2 _ _ ha2 (fun ps z => by cases z)
  have b3 := x3 _ _ ha3 (fun ps z => by cases z)
  have t1 : SaysAt H5 ts1 ys1 := Paired.mapP hts1 fun _ _ q => q.extN x1
  have t2 : SaysAt H5 ts2 ys2 := Paired.mapP hts2 fun _ _ q => q.extN x2
  have r3 : ∀ y ∈ rs3, RowV H5 (lets x).length y := fun y hy => (hR3 y hy).extN x3
  have np3 : ys2.length = many x := by omega
  refine ⟨sz (n := 0) (by decide), fun F nF => ⟨sz (n := 0) (by decide), fun N nN => ?_⟩⟩
  have gF := same_new nF (.lst [])
  have gN := same_new nN (.lst [])
  have hne : F ≠ N := fun z => by rw [← z, upd_same] at nN; cases nN
  have nN5 : H5 N = none := by rw [upd_ne hne.symm] at nN; exact nN
  have two0 : Two K H5 F N ((lets x).length + ys2.length) ys2.length [] [] (upd (upd H5 F (.lst [])) N (.lst [])) :=
    ⟨gF.trans gN, gN _ _ upd_same, upd_same, fun y hy => (by cases hy), fun y hy => (by cases hy)⟩
  refine ⟨_, rfl, p5, rfl, ⟨_, SqL.of (two0.1 _ _ ha5)⟩, ?_⟩
  refine for_list (K := K) (a := p5) (xs := zs) (fun i σ H8 => ∃ (o7 o8 o9 o10 : Option V) (fs ns : List V), σ = [some v, some (.ref a1), some (.ref a2), some (.ref p3), some (.ref p5), some (.ref F), some (.ref N), o7, o8, o9, o10] ∧
      Two K H5 F N ((lets x).length + ys2.length) ys2.length fs ns H8 ∧ fs.length ≤ i * rs3.length ∧ ns.length ≤ i * rs3.length)
    ⟨none, none, none, none, [], [], rfl, two0, Nat.zero_le _, Nat.zero_le _⟩ (fun i σ H8 _ ⟨_, _, _, _, _, _, _, tw, _⟩ => SqL.of (tw.1 _ _ ha5)) (fun i u σ H8 hi h => ?_) fun σ H8 h => ?_
  · obtain ⟨o7, o8, o9, o10, fs, ns, rfl, tw, hf1, hn1⟩ := h
    have hil : i < zs.length := (List.getElem?_eq_some_iff.mp hi).1
    obtain ⟨qs, bs, ob, rfl, hq5, hod, hbl⟩ := hR5 u (List.mem_of_getElem? hi)
    refine ⟨_, rfl, _, rfl, qs, N, ns, bs, rfl, SqT.ofF (tw.1 _ _ hq5), SqL.of tw.2.2.1, fun y hy => (by rw [hbl]; exact (tw.2.2.2.2 y hy).v), by omega, fun r => ⟨r, rfl, ?_⟩⟩
    have hmul : (i + 1) * rs3.length = i * rs3.length + rs3.length := Nat.succ_mul _ _
    cases r with
    | false => exact ite2 (fun z => absurd z Bool.false_ne_true) fun _ => ⟨_, _, _, _, fs, ns, rfl, tw, by omega, by omega⟩
    | true =>
      refine iteT ?_
      refine ⟨_, rfl, p3, rfl, ⟨_, SqL.of (tw.1 _ _ b3)⟩, ?_⟩
      have hi8 : i * rs3.length ≤ 7 * 8 := Nat.mul_le_mul (by omega) hml
      refine for_list (K := K) (a := p3) (xs := rs3) (fun j σ H9 => ∃ (o8 o9 o10 : Option V) (fs ns : List V), σ = [some v, some (.ref a1), some (.ref a2), some (.ref p3), some (.ref p5), some (.ref F), some (.ref N), some (.ref qs), o8, o9, o10] ∧
          Two K H5 F N ((lets x).length + ys2.length) ys2.length fs ns H9 ∧ fs.length ≤ i * rs3.length + j ∧ ns.length ≤ i * rs3.length + j)
        ⟨_, _, _, fs, ns, rfl, tw, hf1, hn1⟩ (fun j σ H9 _ ⟨_, _, _, _, _, _, tw, _⟩ => SqL.of (tw.1 _ _ b3)) (fun j u σ H9 hj h => ?_) fun σ H9 h => ?_
      · obtain ⟨p8, p9, p10, fs, ns, rfl, tw, hf2, hn2⟩ := h
        have hjl : j < rs3.length := (List.getElem?_eq_some_iff.mp hj).1
        obtain ⟨ql, cs, ob2, rfl, hl5', hod2, hcl⟩ := r3 u (List.mem_of_getElem? hj)
        -- behind the sum
        have sl := SqT.ofF (K := K) (tw.1 _ _ hl5')
        have ss := SqT.ofF (K := K) (tw.1 _ _ hq5)
        refine ⟨_, rfl, _, rfl, rCatF.of sl ss (sz (by rw [List.length_map, List.length_map]; omega)) fun kd H10 g10 hk => ?_⟩
        rw [← List.map_append] at hk
        have tw10 := tw.mono g10
        have fk : FRow K H10 ((lets x).length + ys2.length) (.ref kd) := ⟨kd, cs ++ bs, rfl, hk, by rw [List.length_append]; omega⟩
        have tw11 := tw10.addF nF hne fk
        have hk11 : SqT K (upd H10 F (.lst (fs ++ [.ref kd]))) kd ((cs ++ bs).map V.bl) := SqT.exc tw10.2.1 (fun b o hb q => by rw [upd_ne hb]; exact q) hk
        refine ⟨_, rfl, .inl ⟨rfl, _, SqL.of tw10.2.1⟩, _, rfl, F, fs, _, rfl, rfl, tw10.2.1, sz (by omega), ?_⟩
        refine ⟨_, rfl, .inl ⟨rfl, _, SqL.of tw11.2.2.1⟩, _, rfl, _, rfl, a2, rfl, ⟨_, SqL.of (tw11.1 _ _ b2)⟩, fun D nD => ?_⟩
        refine lc_on (as := ts2) (fun _ => true) (fun (t : Say) y _ => ∃ r : Bool, y = .bl r) (SqL.of (tw11.1 _ _ b2)) l2 (by omega) nD (fun _ _ _ _ _ _ _ h => h) (fun m t u H12 acc C C' ht hu s1 hD hC _ => ?_) fun ws H12 s1 hD hy => ?_
        · refine ⟨rfl, q_yes _ _ ?_⟩
          obtain ⟨tp, tsh⟩ := (hm2 t).mp (List.mem_of_getElem? ht)
          have hut : SayAt H12 t u := ((paired_get t2 m t u ht hu).mono tw11.1).mono s1
          cases t <;> simp [Say.isShown] at tsh
          rename_i x'
          obtain ⟨qa, w', rfl, hqa, hw⟩ := hut
          have hp' : x' ∈ x.parts := Say.parts_trans tp (by simp [Say.parts, Say.self_parts])
          have hht : x'.ht ≤ x.ht := Say.part_ht hp'
          exact q_ix rfl hqa at1 ⟨_, rfl, _, rfl, w', a1, kd, x', lets x, ts1, ys1, cs ++ bs, rfl, hw, by omega, by omega, SqL.of (s1 _ _ (tw11.1 _ _ b1)), (t1.mono tw11.1).mono s1, known_of hp' hm1, SqT.mono s1 hk11, by rw [List.length_append]; omega, fun r => hC rfl _ _ (Same.refl _) ⟨r, rfl⟩⟩
        · rw [filter_true] at hy
          obtain ⟨is, rfl, his⟩ := paired_bls (fun _ _ h => h) hy
          have tw12 := tw11.mono s1
          refine ⟨sz (n := 2) (by decide), fun q nq => ?_⟩
          have g13 := same_new nq (.tup [.ref qs, .ref D])
          have tw13 := tw12.mono g13
          have D5 : D ≠ F ∧ D ≠ N := ⟨fun z => (by rw [z, upd_same] at nD; cases nD), fun z => (by rw [z, tw11.2.2.1] at nD; cases nD)⟩
          have kw : KnowW K (upd H12 q (.tup [.ref qs, .ref D])) ys2.length F N (.ref q) := ⟨q, qs, D, bs, is, rfl, upd_same, SqT.ofF (tw13.1 _ _ hq5), g13 _ _ hD, hbl, by omega, D5.1, D5.2⟩
          have tw14 := tw13.addN nN5 hne kw
          refine ⟨N, ns, _, rfl, rfl, tw13.2.2.1, sz (by omega), ?_⟩
          exact ⟨_, _, _, _, _, rfl, tw14, by rw [List.length_append]; simp; omega, by rw [List.length_append]; simp; omega⟩
      · obtain ⟨p8, p9, p10, fs, ns, rfl, tw, hf2, hn2⟩ := h
        exact ⟨_, _, _, _, fs, ns, rfl, tw, by omega, by omega⟩
  · obtain ⟨o7, o8, o9, o10, fs, ns, rfl, tw, hf1, hn1⟩ := h
    have hzr : zs.length * rs3.length ≤ 8 * 8 := Nat.mul_le_mul hzl hml
    refine ⟨_, rfl, F, fs, (lets x).length + ys2.length, rfl, SqL.of tw.2.1, tw.2.2.2.1, fun z => ?_, fun p ws np hwl hws => ?_⟩
    · have q1 : (lets x).length = 0 := by omega
      have q2 : ys2.length = 0 := by omega
      have q3 : zs.length * rs3.length ≤ 1 := by rw [hl5, hl4, hl3, q1, q2]; decide
      omega
    · have gp := same_new np (.lst ws)
      refine kQ p ws _ (fun b o z n => gp _ _ (tw.1 _ _ (x1 _ _ (g1 _ _ z) n))) (hT5.ext (tw.1.trans gp)) upd_same (by omega) fun y hy => ?_
      obtain ⟨q, bs, rfl, h1, h2⟩ := (hws y hy).mono gp
      exact ⟨q, bs, rfl, h1, by omega⟩
end
end SD
namespace SD
open PySem PySem.Spec PyProof.Rows L2 SX
section
variable {P : Program} {w : World} {K : PySem.W.Frag} {mg : Str → Option Value} {base : Heap}
theorem cl_tried {pT : Addr} (D : Df K mg "tried" "tried" "tried" s_tried ["saying"]) (T : Tx mg) (cTh : Cl P w K mg base CX0 155 "things_of" spThings) (cB : ∀ n : Nat, Cl P w K mg base CX0 (n + 1) "by_kind" (spByKind (K := K) n))
    (cK : Cl P w K mg base (L2.CX P w) 190 "kinds_of" (spKinds (K := K) pT qKinds)) : Cl P w K mg base (L2.CX P w) 200 "tried" (spTried (K := K) pT qKinds) := by
  refine D.okX c_tried (fun vs H Q E h => ?_) fun f cdv A outer s H vs Q E hr h => ?_
  · obtain ⟨v, x, rfl, _⟩ := h
    rfl
  obtain ⟨v, x, rfl, hx, hh, hz, hT, hmm, kM, kQ⟩ := h
  have cB := cB 130
  refine ⟨_, pss_cons (ps_set (i := 1) c_tried.nd rfl (Or.inr rfl) (pe_c0 cTh hr (by omega) (pa_cons (pv 0) pa_nil)))
    (pss_one (ps_ret (pe_callB (allL K rfl) rfl T.all (by decide +kernel) (pa_cons
      (pe_lc (own := [("kind", 2)]) (g := gName 2) rfl c_tried.nd (pi_list (pe_cl (E := E) cK hr (by omega) (passes_call (takes_of rfl rfl rfl rfl) fun _ _ _ _ h => h) (pa_cons (pv 0) pa_nil))) (blkOk_by (own := [("kind", 2)]) (N := ["saying", "things", "kind"]) (sc := defScope s_tried) (by decide +kernel))
        (fun _ _ _ _ _ => pg_name (i := 2) c_tried.nd rfl (Or.inl rfl)) (fun _ _ _ _ _ => pts_nil) (fun _ _ _ _ _ => pe_c0 cB hr (by omega) (pa_cons (pv 0) (pa_cons (pv 1) (pa_cons (pv 2) pa_nil))))) pa_nil)))), ?_⟩
  refine ⟨_, rfl, v, x, rfl, hx, by omega, hz, fun a1 ys1 ts1 H1 g1 n1 ha1 hts1 up1 hm1 => ?_⟩
  have e1 : ts1.length = many x := many_eq (up_nodup up1) hm1
  refine ⟨_, rfl, v, x, rfl, hx.mono g1, hh, hz, hT.ext g1, hmm, fun h5 => (kM h5).mono g1, fun h4 p ys H2 x2 hT2 hp hyl hys => ⟨p, rfl, ⟨_, SqL.of hp⟩, fun D nD => ?_⟩⟩
  have b1 := x2 _ _ ha1 (fun ps z => by cases z)
  have t1 : SaysAt H2 ts1 ys1 := Paired.mapP hts1 fun _ _ q => q.extN x2
  have hx2 := (hx.mono g1).extN x2
  refine lc_on (as := ys) (fun _ => true) (fun (_ : V) y _ => ∃ r : Bool, y = .bl r) (SqL.of hp) rfl (by omega) nD (fun _ _ _ _ _ _ _ h => h) (fun m t u H12 acc C C' ht hu s1 hD hC _ => ?_) fun ws H12 s1 hD hy => ?_
  · refine ⟨rfl, q_yes _ _ ?_⟩
    rw [ht] at hu
    injection hu with hu
    subst hu
    obtain ⟨q, bs, rfl, hq, hbl⟩ := hys _ (List.mem_of_getElem? ht)
    exact ⟨_, rfl, _, rfl, _, rfl, v, a1, q, x, lets x, ts1, ys1, bs, rfl, hx2.mono s1, by omega, by omega, SqL.of (s1 _ _ b1), t1.mono s1, known_of (Say.self_parts x) hm1, SqT.mono s1 hq, by omega, fun r => hC rfl _ _ (Same.refl _) ⟨r, rfl⟩⟩
  · rw [filter_true] at hy
    obtain ⟨is, rfl, his⟩ := paired_bls (fun _ _ h => h) hy
    exact ⟨D, is, rfl, SqL.of hD, kQ h4 _ _ (fun b o z n => s1 _ _ (x2 _ _ (g1 _ _ z) n)) (hT2.ext s1)⟩
end
end SD
namespace SD
open PySem PySem.Spec PyProof.Rows L2 SX
section
variable {P : Program} {w : World} {K : PySem.W.Frag} {mg : Str → Option Value} {h base : Heap} (X : K.In h) (G : h.Ns mainGlobals mg) (c : He.SaysX fa fn ts tf ex w h K)
include X G c
omit X G in
theorem f_NoSaying_init : Da K "__init__" "NoSaying.__init__" s_NoSaying_init ["self", "place"] (He.ma K (He.ga K "NoSaying") "__init__") := by
  obtain ⟨fd, F⟩ := c.t.d.def_ 0 (d := d_NoSaying_init) rfl
  exact ⟨fd, F, F.bindsN fun _ _ _ _ _ _ us hl => match us, hl with | [_, _], _ => rfl⟩
omit X G in
theorem f_HasLetter_init : Da K "__init__" "HasLetter.__init__" s_HasLetter_init ["self", "letter"] (He.ma K (He.ga K "HasLetter") "__init__") := by
  obtain ⟨fd, F⟩ := c.t.d.def_ 1 (d := d_HasLetter_init) rfl
  exact ⟨fd, F, F.bindsN fun _ _ _ _ _ _ us hl => match us, hl with | [_, _], _ => rfl⟩
theorem f_inner_of : Df K mg "inner_of" "inner_of" "inner_of" s_inner_of ["saying"] := by
  obtain ⟨fd, F⟩ := c.t.d.def_ 2 (d := d_inner_of) rfl
  exact ⟨_, fd, F, He.glo_ok X G (c.t.d.fact 0 (f := .glo "inner_of") rfl), F.bindsN fun _ _ _ _ _ _ us hl => match us, hl with | [_], _ => rfl⟩
theorem f_size_of : Df K mg "size_of" "size_of" "size_of" s_size_of ["saying"] := by
  obtain ⟨fd, F⟩ := c.t.d.def_ 3 (d := d_size_of) rfl
  exact ⟨_, fd, F, He.glo_ok X G (c.t.d.fact 1 (f := .glo "size_of") rfl), F.bindsN fun _ _ _ _ _ _ us hl => match us, hl with | [_], _ => rfl⟩
theorem f_depth_of : Df K mg "depth_of" "depth_of" "depth_of" s_depth_of ["saying"] := by
  obtain ⟨fd, F⟩ := c.t.d.def_ 4 (d := d_depth_of) rfl
  exact ⟨_, fd, F, He.glo_ok X G (c.t.d.fact 2 (f := .glo "depth_of") rfl), F.bindsN fun _ _ _ _ _ _ us hl => match us, hl with | [_], _ => rfl⟩
theorem f_gather : Df K mg "gather_sayings" "gather" "gather" s_gather ["saying", "found"] := by
  obtain ⟨fd, F⟩ := c.t.d.def_ 5 (d := d_gather) rfl
  exact ⟨_, fd, F, He.glo_ok X G (c.t.d.fact 3 (f := .glo "gather_sayings") rfl), F.bindsN fun _ _ _ _ _ _ us hl => match us, hl with | [_, _], _ => rfl⟩
theorem f_each_once : Df K mg "each_once" "each_once" "each_once" s_each_once ["some"] := by
  obtain ⟨fd, F⟩ := c.t.d.def_ 6 (d := d_each_once) rfl
  exact ⟨_, fd, F, He.glo_ok X G (c.t.d.fact 4 (f := .glo "each_once") rfl), F.bindsN fun _ _ _ _ _ _ us hl => match us, hl with | [_], _ => rfl⟩
theorem f_parts_of : Df K mg "parts_of" "parts_of" "parts_of" s_parts_of ["saying"] := by
  obtain ⟨fd, F⟩ := c.t.d.def_ 7 (d := d_parts_of) rfl
  exact ⟨_, fd, F, He.glo_ok X G (c.t.d.fact 5 (f := .glo "parts_of") rfl), F.bindsN fun _ _ _ _ _ _ us hl => match us, hl with | [_], _ => rfl⟩
theorem f_shown_parts : Df K mg "shown_parts" "shown_parts" "shown_parts" s_shown_parts ["saying"] := by
  obtain ⟨fd, F⟩ := c.t.d.def_ 8 (d := d_shown_parts) rfl
  exact ⟨_, fd, F, He.glo_ok X G (c.t.d.fact 6 (f := .glo "shown_parts") rfl), F.bindsN fun _ _ _ _ _ _ us hl => match us, hl with | [_], _ => rfl⟩
theorem f_letters_of : Df K mg "letters_of" "letters_of" "letters_of" s_letters_of ["saying"] := by
  obtain ⟨fd, F⟩ := c.t.d.def_ 9 (d := d_letters_of) rfl
  exact ⟨_, fd, F, He.glo_ok X G (c.t.d.fact 7 (f := .glo "letters_of") rfl), F.bindsN fun _ _ _ _ _ _ us hl => match us, hl with | [_], _ => rfl⟩
theorem f_put : Df K mg "put" "put" "put" s_put ["saying", "sayings"] := by
  obtain ⟨fd, F⟩ := c.t.d.def_ 10 (d := d_put) rfl
  exact ⟨_, fd, F, He.glo_ok X G (c.t.d.fact 8 (f := .glo "put") rfl), F.bindsN fun _ _ _ _ _ _ us hl => match us, hl with | [_, _], _ => rfl⟩
theorem f_unlike : Df K mg "unlike" "unlike" "unlike" s_unlike ["sayings"] := by
  obtain ⟨fd, F⟩ := c.t.d.def_ 11 (d := d_unlike) rfl
  exact ⟨_, fd, F, He.glo_ok X G (c.t.d.fact 9 (f := .glo "unlike") rfl), F.bindsN fun _ _ _ _ _ _ us hl => match us, hl with | [_], _ => rfl⟩
theorem f_claim_of : Df K mg "claim_of" "claim_of" "claim_of" s_claim_of ["left", "right"] := by
  obtain ⟨fd, F⟩ := c.t.d.def_ 12 (d := d_claim_of) rfl
  exact ⟨_, fd, F, He.glo_ok X G (c.t.d.fact 10 (f := .glo "claim_of") rfl), F.bindsN fun _ _ _ _ _ _ us hl => match us, hl with | [_, _], _ => rfl⟩
theorem f_claim_parts : Df K mg "claim_parts" "claim_parts" "claim_parts" s_claim_parts ["claim"] := by
  obtain ⟨fd, F⟩ := c.t.d.def_ 13 (d := d_claim_parts) rfl
  exact ⟨_, fd, F, He.glo_ok X G (c.t.d.fact 11 (f := .glo "claim_parts") rfl), F.bindsN fun _ _ _ _ _ _ us hl => match us, hl with | [_], _ => rfl⟩
theorem f_claim_shown : Df K mg "claim_shown" "claim_shown" "claim_shown" s_claim_shown ["claim"] := by
  obtain ⟨fd, F⟩ := c.t.d.def_ 14 (d := d_claim_shown) rfl
  exact ⟨_, fd, F, He.glo_ok X G (c.t.d.fact 12 (f := .glo "claim_shown") rfl), F.bindsN fun _ _ _ _ _ _ us hl => match us, hl with | [_], _ => rfl⟩
theorem f_searched : Df K mg "searched" "searched" "searched" s_searched ["claim"] := by
  obtain ⟨fd, F⟩ := c.t.d.def_ 15 (d := d_searched) rfl
  exact ⟨_, fd, F, He.glo_ok X G (c.t.d.fact 13 (f := .glo "searched") rfl), F.bindsN fun _ _ _ _ _ _ us hl => match us, hl with | [_], _ => rfl⟩
theorem f_judged : Df K mg "judged" "judged" "judged" s_judged ["saying"] := by
  obtain ⟨fd, F⟩ := c.t.d.def_ 16 (d := d_judged) rfl
  exact ⟨_, fd, F, He.glo_ok X G (c.t.d.fact 14 (f := .glo "judged") rfl), F.bindsN fun _ _ _ _ _ _ us hl => match us, hl with | [_], _ => rfl⟩
theorem f_alike : Df K mg "alike" "alike" "alike" s_alike ["one", "other"] := by
  obtain ⟨fd, F⟩ := c.t.d.def_ 17 (d := d_alike) rfl
  exact ⟨_, fd, F, He.glo_ok X G (c.t.d.fact 15 (f := .glo "alike") rfl), F.bindsN fun _ _ _ _ _ _ us hl => match us, hl with | [_, _], _ => rfl⟩
theorem f_things_of : Df K mg "things_of" "things_of" "things_of" s_things_of ["saying"] := by
  obtain ⟨fd, F⟩ := c.t.d.def_ 18 (d := d_things_of) rfl
  exact ⟨_, fd, F, He.glo_ok X G (c.t.d.fact 16 (f := .glo "things_of") rfl), F.bindsN fun _ _ _ _ _ _ us hl => match us, hl with | [_], _ => rfl⟩
theorem f_by_kind : Df K mg "by_kind" "by_kind" "by_kind" s_by_kind ["saying", "things", "kind"] := by
  obtain ⟨fd, F⟩ := c.t.d.def_ 19 (d := d_by_kind) rfl
  exact ⟨_, fd, F, He.glo_ok X G (c.t.d.fact 17 (f := .glo "by_kind") rfl), F.bindsN fun _ _ _ _ _ _ us hl => match us, hl with | [_, _, _], _ => rfl⟩
theorem f_rows_of : Df K mg "rows_of" "rows_of" "rows_of" s_rows_of ["count"] := by
  obtain ⟨fd, F⟩ := c.t.d.def_ 20 (d := d_rows_of) rfl
  exact ⟨_, fd, F, He.glo_ok X G (c.t.d.fact 18 (f := .glo "rows_of") rfl), F.bindsN fun _ _ _ _ _ _ us hl => match us, hl with | [_], _ => rfl⟩
theorem f_crossed : Df K mg "crossed" "crossed" "crossed" s_crossed ["rows"] := by
  obtain ⟨fd, F⟩ := c.t.d.def_ 21 (d := d_crossed) rfl
  exact ⟨_, fd, F, He.glo_ok X G (c.t.d.fact 19 (f := .glo "crossed") rfl), F.bindsN fun _ _ _ _ _ _ us hl => match us, hl with | [_], _ => rfl⟩
theorem f_bears : Df K mg "bears" "bears" "bears" s_bears ["room", "inner", "at", "shown"] := by
  obtain ⟨fd, F⟩ := c.t.d.def_ 22 (d := d_bears) rfl
  exact ⟨_, fd, F, He.glo_ok X G (c.t.d.fact 20 (f := .glo "bears") rfl), F.bindsN fun _ _ _ _ _ _ us hl => match us, hl with | [_, _, _, _], _ => rfl⟩
theorem f_can_be : Df K mg "can_be" "can_be" "can_be" s_can_be ["shown", "known"] := by
  obtain ⟨fd, F⟩ := c.t.d.def_ 23 (d := d_can_be) rfl
  exact ⟨_, fd, F, He.glo_ok X G (c.t.d.fact 21 (f := .glo "can_be") rfl), F.bindsN fun _ _ _ _ _ _ us hl => match us, hl with | [_, _], _ => rfl⟩
theorem f_tried : Df K mg "tried" "tried" "tried" s_tried ["saying"] := by
  obtain ⟨fd, F⟩ := c.t.d.def_ 25 (d := d_tried) rfl
  exact ⟨_, fd, F, He.glo_ok X G (c.t.d.fact 23 (f := .glo "tried") rfl), F.bindsN fun _ _ _ _ _ _ us hl => match us, hl with | [_], _ => rfl⟩
theorem f_are_marks : Df K mg "are_marks" "are_marks" "are_marks" s_are_marks ["marks"] := by
  obtain ⟨fd, F⟩ := c.t.d.def_ 26 (d := d_are_marks) rfl
  exact ⟨_, fd, F, He.glo_ok X G (c.t.d.fact 24 (f := .glo "are_marks") rfl), F.bindsN fun _ _ _ _ _ _ us hl => match us, hl with | [_], _ => rfl⟩
theorem f_look_over : Df K mg "look_over" "look_over" "look_over" s_look_over ["rooms"] := by
  obtain ⟨fd, F⟩ := c.t.d.def_ 27 (d := d_look_over) rfl
  exact ⟨_, fd, F, He.glo_ok X G (c.t.d.fact 25 (f := .glo "look_over") rfl), F.bindsN fun _ _ _ _ _ _ us hl => match us, hl with | [_], _ => rfl⟩
theorem f_all_above : Df K mg "all_above" "all_above" "all_above" s_all_above ["rooms", "inner"] := by
  obtain ⟨fd, F⟩ := c.t.d.def_ 28 (d := d_all_above) rfl
  exact ⟨_, fd, F, He.glo_ok X G (c.t.d.fact 26 (f := .glo "all_above") rfl), F.bindsN fun _ _ _ _ _ _ us hl => match us, hl with | [_, _], _ => rfl⟩
theorem f_joined : Df K mg "joined" "joined" "joined" s_joined ["word", "ones", "others"] := by
  obtain ⟨fd, F⟩ := c.t.d.def_ 29 (d := d_joined) rfl
  exact ⟨_, fd, F, He.glo_ok X G (c.t.d.fact 27 (f := .glo "joined") rfl), F.bindsN fun _ _ _ _ _ _ us hl => match us, hl with | [_, _, _], _ => rfl⟩
theorem f_truths_in : Df K mg "truths_in" "truths_in" "truths_in" s_truths_in ["rooms", "saying", "given"] := by
  obtain ⟨fd, F⟩ := c.t.d.def_ 30 (d := d_truths_in) rfl
  exact ⟨_, fd, F, He.glo_ok X G (c.t.d.fact 28 (f := .glo "truths_in") rfl), F.bindsN fun _ _ _ _ _ _ us hl => match us, hl with | [_, _, _], _ => rfl⟩
omit X G in
theorem f_Tree_init : Da K "__init__" "Tree.__init__" s_Tree_init ["self", "rooms"] (He.ma K (He.ga K "Tree") "__init__") := by
  obtain ⟨fd, F⟩ := c.t.d.def_ 31 (d := d_Tree_init) rfl
  exact ⟨fd, F, F.bindsN fun _ _ _ _ _ _ us hl => match us, hl with | [_, _], _ => rfl⟩
omit X G in
theorem f_Tree_holds : Da K "holds" "Tree.holds" s_Tree_holds ["self", "saying"] (He.ma K (He.ga K "Chain") "holds") := by
  obtain ⟨fd, F⟩ := c.t.d.def_ 32 (d := d_Tree_holds) rfl
  exact ⟨fd, F, F.bindsN fun _ _ _ _ _ _ us hl => match us, hl with | [_, _], _ => rfl⟩
omit X G in
theorem f_Chain_init : Da K "__init__" "Chain.__init__" s_Chain_init ["self", "marks"] (He.ma K (He.ga K "Chain") "__init__") := by
  obtain ⟨fd, F⟩ := c.t.d.def_ 33 (d := d_Chain_init) rfl
  exact ⟨fd, F, F.bindsN fun _ _ _ _ _ _ us hl => match us, hl with | [_, _], _ => rfl⟩
theorem f_row_of : Df K mg "row_of" "row_of" "row_of" s_row_of ["saying"] := by
  obtain ⟨fd, F⟩ := c.t.d.def_ 34 (d := d_row_of) rfl
  exact ⟨_, fd, F, He.glo_ok X G (c.t.d.fact 29 (f := .glo "row_of") rfl), F.bindsN fun _ _ _ _ _ _ us hl => match us, hl with | [_], _ => rfl⟩
theorem f_gather2 : Df K mg "gather_selves" "gather" "gather" s_gather2 ["saying", "found"] := by
  obtain ⟨fd, F⟩ := c.t.d.def_ 35 (d := d_gather2) rfl
  exact ⟨_, fd, F, He.glo_ok X G (c.t.d.fact 30 (f := .glo "gather_selves") rfl), F.bindsN fun _ _ _ _ _ _ us hl => match us, hl with | [_, _], _ => rfl⟩
theorem f_outer_parts : Df K mg "outer_parts" "outer_parts" "outer_parts" s_outer_parts ["saying"] := by
  obtain ⟨fd, F⟩ := c.t.d.def_ 36 (d := d_outer_parts) rfl
  exact ⟨_, fd, F, He.glo_ok X G (c.t.d.fact 31 (f := .glo "outer_parts") rfl), F.bindsN fun _ _ _ _ _ _ us hl => match us, hl with | [_], _ => rfl⟩
theorem f_answer : Df K mg "answer" "answer" "answer" s_answer ["saying"] := by
  obtain ⟨fd, F⟩ := c.t.d.def_ 37 (d := d_answer) rfl
  exact ⟨_, fd, F, He.glo_ok X G (c.t.d.fact 32 (f := .glo "answer") rfl), F.bindsN fun _ _ _ _ _ _ us hl => match us, hl with | [_], _ => rfl⟩
theorem f_written : Df K mg "written" "written" "written" s_written ["saying"] := by
  obtain ⟨fd, F⟩ := c.t.d.def_ 38 (d := d_written) rfl
  exact ⟨_, fd, F, He.glo_ok X G (c.t.d.fact 33 (f := .glo "written") rfl), F.bindsN fun _ _ _ _ _ _ us hl => match us, hl with | [_], _ => rfl⟩
theorem f_sign_at : Df K mg "sign_at" "sign_at" "sign_at" s_sign_at ["text", "at", "allowed"] := by
  obtain ⟨fd, F⟩ := c.t.d.def_ 39 (d := d_sign_at) rfl
  exact ⟨_, fd, F, He.glo_ok X G (c.t.d.fact 34 (f := .glo "sign_at") rfl), F.bindsN fun _ _ _ _ _ _ us hl => match us, hl with | [_, _, _], _ => rfl⟩
theorem f_read_from : Df K mg "read_from" "read_from" "read_from" s_read_from ["text", "at"] := by
  obtain ⟨fd, F⟩ := c.t.d.def_ 40 (d := d_read_from) rfl
  exact ⟨_, fd, F, He.glo_ok X G (c.t.d.fact 35 (f := .glo "read_from") rfl), F.bindsN fun _ _ _ _ _ _ us hl => match us, hl with | [_, _], _ => rfl⟩
theorem f_read : Df K mg "read" "read" "read" s_read ["text"] := by
  obtain ⟨fd, F⟩ := c.t.d.def_ 41 (d := d_read) rfl
  exact ⟨_, fd, F, He.glo_ok X G (c.t.d.fact 36 (f := .glo "read") rfl), F.bindsN fun _ _ _ _ _ _ us hl => match us, hl with | [_], _ => rfl⟩
theorem f_marks_of : Df K mg "marks_of" "marks_of" "marks_of" s_marks_of ["word"] := by
  obtain ⟨fd, F⟩ := c.t.d.def_ 42 (d := d_marks_of) rfl
  exact ⟨_, fd, F, He.glo_ok X G (c.t.d.fact 37 (f := .glo "marks_of") rfl), F.bindsN fun _ _ _ _ _ _ us hl => match us, hl with | [_], _ => rfl⟩
theorem f_line_words : Df K mg "line_words" "line_words" "line_words" s_line_words ["line"] := by
  obtain ⟨fd, F⟩ := c.t.d.def_ 43 (d := d_line_words) rfl
  exact ⟨_, fd, F, He.glo_ok X G (c.t.d.fact 38 (f := .glo "line_words") rfl), F.bindsN fun _ _ _ _ _ _ us hl => match us, hl with | [_], _ => rfl⟩
theorem f_signs_of : Df K mg "signs_of" "signs_of" "signs_of" s_signs_of ["some"] := by
  obtain ⟨fd, F⟩ := c.t.d.def_ 44 (d := d_signs_of) rfl
  exact ⟨_, fd, F, He.glo_ok X G (c.t.d.fact 39 (f := .glo "signs_of") rfl), F.bindsN fun _ _ _ _ _ _ us hl => match us, hl with | [_], _ => rfl⟩
omit X G in
theorem f_Desk_init : Da K "__init__" "Desk.__init__" s_Desk_init ["self"] (He.ma K (He.ga K "Desk") "__init__") := by
  obtain ⟨fd, F⟩ := c.t.d.def_ 45 (d := d_Desk_init) rfl
  exact ⟨fd, F, F.bindsN fun _ _ _ _ _ _ us hl => match us, hl with | [_], _ => rfl⟩
omit X G in
theorem f_Desk_say : Da K "say" "Desk.say" s_Desk_say ["self", "line"] (He.ma K (He.ga K "Desk") "say") := by
  obtain ⟨fd, F⟩ := c.t.d.def_ 46 (d := d_Desk_say) rfl
  exact ⟨fd, F, F.bindsN fun _ _ _ _ _ _ us hl => match us, hl with | [_, _], _ => rfl⟩
omit X G in
theorem f_Desk_changed : Da K "changed" "Desk.changed" s_Desk_changed ["self", "letter", "saying"] (He.ma K (He.ga K "Desk") "changed") := by
  obtain ⟨fd, F⟩ := c.t.d.def_ 47 (d := d_Desk_changed) rfl
  exact ⟨fd, F, F.bindsN fun _ _ _ _ _ _ us hl => match us, hl with | [_, _, _], _ => rfl⟩
omit X G in
theorem f_Desk_judged_line : Da K "judged_line" "Desk.judged_line" s_Desk_judged_line ["self", "words"] (He.ma K (He.ga K "Desk") "judged_line") := by
  obtain ⟨fd, F⟩ := c.t.d.def_ 48 (d := d_Desk_judged_line) rfl
  exact ⟨fd, F, F.bindsN fun _ _ _ _ _ _ us hl => match us, hl with | [_, _], _ => rfl⟩
theorem f_law_mix : Df K mg "_law_mix" "_law_mix" "_law_mix" s_law_mix ["_law_script", "_law_k"] := by
  obtain ⟨fd, F⟩ := c.t.d.def_ 49 (d := d_law_mix) rfl
  exact ⟨_, fd, F, He.glo_ok X G (c.t.d.fact 40 (f := .glo "_law_mix") rfl), F.bindsN fun _ _ _ _ _ _ us hl => match us, hl with | [_, _], _ => rfl⟩
theorem f_law_size : Df K mg "_law_size" "_law_size" "_law_size" s_law_size ["_law_saying"] := by
  obtain ⟨fd, F⟩ := c.t.d.def_ 50 (d := d_law_size) rfl
  exact ⟨_, fd, F, He.glo_ok X G (c.t.d.fact 41 (f := .glo "_law_size") rfl), F.bindsN fun _ _ _ _ _ _ us hl => match us, hl with | [_], _ => rfl⟩
theorem f_law_shown : Df K mg "_law_shown" "_law_shown" "_law_shown" s_law_shown ["_law_saying"] := by
  obtain ⟨fd, F⟩ := c.t.d.def_ 51 (d := d_law_shown) rfl
  exact ⟨_, fd, F, He.glo_ok X G (c.t.d.fact 42 (f := .glo "_law_shown") rfl), F.bindsN fun _ _ _ _ _ _ us hl => match us, hl with | [_], _ => rfl⟩
theorem f_law_leaf : Df K mg "_law_leaf" "_law_leaf" "_law_leaf" s_law_leaf ["_law_cell", "_law_letters_here"] := by
  obtain ⟨fd, F⟩ := c.t.d.def_ 52 (d := d_law_leaf) rfl
  exact ⟨_, fd, F, He.glo_ok X G (c.t.d.fact 43 (f := .glo "_law_leaf") rfl), F.bindsN fun _ _ _ _ _ _ us hl => match us, hl with | [_, _], _ => rfl⟩
theorem f_law_joined : Df K mg "_law_joined" "_law_joined" "_law_joined" s_law_joined ["_law_made", "_law_other", "_law_word"] := by
  obtain ⟨fd, F⟩ := c.t.d.def_ 53 (d := d_law_joined) rfl
  exact ⟨_, fd, F, He.glo_ok X G (c.t.d.fact 44 (f := .glo "_law_joined") rfl), F.bindsN fun _ _ _ _ _ _ us hl => match us, hl with | [_, _, _], _ => rfl⟩
theorem f_law_grown : Df K mg "_law_grown" "_law_grown" "_law_grown" s_law_grown ["_law_script", "_law_at", "_law_many", "_law_most", "_law_letters_here"] := by
  obtain ⟨fd, F⟩ := c.t.d.def_ 54 (d := d_law_grown) rfl
  exact ⟨_, fd, F, He.glo_ok X G (c.t.d.fact 45 (f := .glo "_law_grown") rfl), F.bindsN fun _ _ _ _ _ _ us hl => match us, hl with | [_, _, _, _, _], _ => rfl⟩
theorem f_law_free : Df K mg "_law_free" "_law_free" "_law_free" s_law_free ["_law_cell", "_law_left"] := by
  obtain ⟨fd, F⟩ := c.t.d.def_ 55 (d := d_law_free) rfl
  exact ⟨_, fd, F, He.glo_ok X G (c.t.d.fact 46 (f := .glo "_law_free") rfl), F.bindsN fun _ _ _ _ _ _ us hl => match us, hl with | [_, _], _ => rfl⟩
theorem f_law_text : Df K mg "_law_text" "_law_text" "_law_text" s_law_text ["_law_saying"] := by
  obtain ⟨fd, F⟩ := c.t.d.def_ 56 (d := d_law_text) rfl
  exact ⟨_, fd, F, He.glo_ok X G (c.t.d.fact 47 (f := .glo "_law_text") rfl), F.bindsN fun _ _ _ _ _ _ us hl => match us, hl with | [_], _ => rfl⟩
theorem f_law_ups : Df K mg "_law_ups" "_law_ups" "_law_ups" s_law_ups ["_law_rooms"] := by
  obtain ⟨fd, F⟩ := c.t.d.def_ 57 (d := d_law_ups) rfl
  exact ⟨_, fd, F, He.glo_ok X G (c.t.d.fact 48 (f := .glo "_law_ups") rfl), F.bindsN fun _ _ _ _ _ _ us hl => match us, hl with | [_], _ => rfl⟩
theorem f_law_worth : Df K mg "_law_worth" "_law_worth" "_law_worth" s_law_worth ["_law_rooms", "_law_ups_here", "_law_saying"] := by
  obtain ⟨fd, F⟩ := c.t.d.def_ 58 (d := d_law_worth) rfl
  exact ⟨_, fd, F, He.glo_ok X G (c.t.d.fact 49 (f := .glo "_law_worth") rfl), F.bindsN fun _ _ _ _ _ _ us hl => match us, hl with | [_, _, _], _ => rfl⟩
theorem f_law_put : Df K mg "_law_put" "_law_put" "_law_put" s_law_put ["_law_saying", "_law_letter", "_law_other"] := by
  obtain ⟨fd, F⟩ := c.t.d.def_ 59 (d := d_law_put) rfl
  exact ⟨_, fd, F, He.glo_ok X G (c.t.d.fact 50 (f := .glo "_law_put") rfl), F.bindsN fun _ _ _ _ _ _ us hl => match us, hl with | [_, _, _], _ => rfl⟩
theorem f_law_depth : Df K mg "_law_depth" "_law_depth" "_law_depth" s_law_depth ["_law_saying"] := by
  obtain ⟨fd, F⟩ := c.t.d.def_ 60 (d := d_law_depth) rfl
  exact ⟨_, fd, F, He.glo_ok X G (c.t.d.fact 51 (f := .glo "_law_depth") rfl), F.bindsN fun _ _ _ _ _ _ us hl => match us, hl with | [_], _ => rfl⟩
theorem f_law_signs : Df K mg "_law_signs" "_law_signs" "_law_signs" s_law_signs ["_law_truths"] := by
  obtain ⟨fd, F⟩ := c.t.d.def_ 61 (d := d_law_signs) rfl
  exact ⟨_, fd, F, He.glo_ok X G (c.t.d.fact 52 (f := .glo "_law_signs") rfl), F.bindsN fun _ _ _ _ _ _ us hl => match us, hl with | [_], _ => rfl⟩
theorem f_law_kind : Df K mg "_law_kind" "_law_kind" "_law_kind" s_law_kind ["_law_caught"] := by
  obtain ⟨fd, F⟩ := c.t.d.def_ 62 (d := d_law_kind) rfl
  exact ⟨_, fd, F, He.glo_ok X G (c.t.d.fact 53 (f := .glo "_law_kind") rfl), F.bindsN fun _ _ _ _ _ _ us hl => match us, hl with | [_], _ => rfl⟩
theorem f_law_said : Df K mg "_law_said" "_law_said" "_law_said" s_law_said ["_law_desk", "_law_line"] := by
  obtain ⟨fd, F⟩ := c.t.d.def_ 63 (d := d_law_said) rfl
  exact ⟨_, fd, F, He.glo_ok X G (c.t.d.fact 54 (f := .glo "_law_said") rfl), F.bindsN fun _ _ _ _ _ _ us hl => match us, hl with | [_, _], _ => rfl⟩
theorem f_law_letters : Df K mg "_law_letters" "_law_letters" "_law_letters" s_law_letters ["_law_saying"] := by
  obtain ⟨fd, F⟩ := c.t.d.def_ 64 (d := d_law_letters) rfl
  exact ⟨_, fd, F, He.glo_ok X G (c.t.d.fact 55 (f := .glo "_law_letters") rfl), F.bindsN fun _ _ _ _ _ _ us hl => match us, hl with | [_], _ => rfl⟩
theorem f_law_bad : Df K mg "_law_bad" "_law_bad" "_law_bad" s_law_bad ["_law_cell"] := by
  obtain ⟨fd, F⟩ := c.t.d.def_ 65 (d := d_law_bad) rfl
  exact ⟨_, fd, F, He.glo_ok X G (c.t.d.fact 56 (f := .glo "_law_bad") rfl), F.bindsN fun _ _ _ _ _ _ us hl => match us, hl with | [_], _ => rfl⟩
theorem f_law_say_line : Df K mg "_law_say_line" "_law_say_line" "_law_say_line" s_law_say_line ["_law_state", "_law_script", "_law_k", "_law_cell"] := by
  obtain ⟨fd, F⟩ := c.t.d.def_ 66 (d := d_law_say_line) rfl
  exact ⟨_, fd, F, He.glo_ok X G (c.t.d.fact 57 (f := .glo "_law_say_line") rfl), F.bindsN fun _ _ _ _ _ _ us hl => match us, hl with | [_, _, _, _], _ => rfl⟩
theorem f_law_put_line : Df K mg "_law_put_line" "_law_put_line" "_law_put_line" s_law_put_line ["_law_state", "_law_script", "_law_k", "_law_cell"] := by
  obtain ⟨fd, F⟩ := c.t.d.def_ 67 (d := d_law_put_line) rfl
  exact ⟨_, fd, F, He.glo_ok X G (c.t.d.fact 58 (f := .glo "_law_put_line") rfl), F.bindsN fun _ _ _ _ _ _ us hl => match us, hl with | [_, _, _, _], _ => rfl⟩
theorem f_law_chain_line : Df K mg "_law_chain_line" "_law_chain_line" "_law_chain_line" s_law_chain_line ["_law_state", "_law_cell"] := by
  obtain ⟨fd, F⟩ := c.t.d.def_ 68 (d := d_law_chain_line) rfl
  exact ⟨_, fd, F, He.glo_ok X G (c.t.d.fact 59 (f := .glo "_law_chain_line") rfl), F.bindsN fun _ _ _ _ _ _ us hl => match us, hl with | [_, _], _ => rfl⟩
theorem f_law_row_line : Df K mg "_law_row_line" "_law_row_line" "_law_row_line" s_law_row_line ["_law_state"] := by
  obtain ⟨fd, F⟩ := c.t.d.def_ 69 (d := d_law_row_line) rfl
  exact ⟨_, fd, F, He.glo_ok X G (c.t.d.fact 60 (f := .glo "_law_row_line") rfl), F.bindsN fun _ _ _ _ _ _ us hl => match us, hl with | [_], _ => rfl⟩
theorem f_law_outside : Df K mg "_law_outside" "_law_outside" "_law_outside" s_law_outside ["_law_saying"] := by
  obtain ⟨fd, F⟩ := c.t.d.def_ 70 (d := d_law_outside) rfl
  exact ⟨_, fd, F, He.glo_ok X G (c.t.d.fact 61 (f := .glo "_law_outside") rfl), F.bindsN fun _ _ _ _ _ _ us hl => match us, hl with | [_], _ => rfl⟩
theorem f_law_asked_line : Df K mg "_law_asked_line" "_law_asked_line" "_law_asked_line" s_law_asked_line ["_law_state", "_law_kind_here"] := by
  obtain ⟨fd, F⟩ := c.t.d.def_ 71 (d := d_law_asked_line) rfl
  exact ⟨_, fd, F, He.glo_ok X G (c.t.d.fact 62 (f := .glo "_law_asked_line") rfl), F.bindsN fun _ _ _ _ _ _ us hl => match us, hl with | [_, _], _ => rfl⟩
theorem f_law : Df K mg "law" "law" "law" s_law ["_law_script"] := by
  obtain ⟨fd, F⟩ := c.t.d.def_ 72 (d := d_law) rfl
  exact ⟨_, fd, F, He.glo_ok X G (c.t.d.fact 63 (f := .glo "law") rfl), F.bindsN fun _ _ _ _ _ _ us hl => match us, hl with | [_], _ => rfl⟩
theorem f_Tx : Tx mg := ⟨He.free_ok X G (c.t.d.fact 79 (f := .free "len") rfl), He.free_ok X G (c.t.d.fact 80 (f := .free "sum") rfl), He.free_ok X G (c.t.d.fact 81 (f := .free "max") rfl), He.free_ok X G (c.t.d.fact 82 (f := .free "min") rfl), He.free_ok X G (c.t.d.fact 83 (f := .free "list") rfl), He.free_ok X G (c.t.d.fact 84 (f := .free "tuple") rfl), He.free_ok X G (c.t.d.fact 85 (f := .free "sorted") rfl), He.free_ok X G (c.t.d.fact 86 (f := .free "reversed") rfl), He.free_ok X G (c.t.d.fact 87 (f := .free "range") rfl), He.free_ok X G (c.t.d.fact 88 (f := .free "enumerate") rfl), He.free_ok X G (c.t.d.fact 89 (f := .free "zip") rfl), He.free_ok X G (c.t.d.fact 90 (f := .free "all") rfl), He.free_ok X G (c.t.d.fact 91 (f := .free "any") rfl), He.free_ok X G (c.t.d.fact 92 (f := .free "int") rfl), He.free_ok X G (c.t.d.fact 93 (f := .free "str") rfl), He.free_ok X G (c.t.d.fact 94 (f := .free "isinstance") rfl)⟩
theorem x_TooMany : Xc K mg "TooMany" := by
  obtain ⟨h1, h2, h3, h4⟩ := He.exc_ok (c.t.d.fact 115 (f := .exc "TooMany") rfl)
  exact ⟨h1, He.glo_ok X G (c.t.d.fact 65 (f := .glo "TooMany") rfl), h2, h3, h4⟩
theorem x_Outside : Xc K mg "Outside" := by
  obtain ⟨h1, h2, h3, h4⟩ := He.exc_ok (c.t.d.fact 116 (f := .exc "Outside") rfl)
  exact ⟨h1, He.glo_ok X G (c.t.d.fact 67 (f := .glo "Outside") rfl), h2, h3, h4⟩
theorem x_Nothing : Xc K mg "Nothing" := by
  obtain ⟨h1, h2, h3, h4⟩ := He.exc_ok (c.t.d.fact 117 (f := .exc "Nothing") rfl)
  exact ⟨h1, He.glo_ok X G (c.t.d.fact 69 (f := .glo "Nothing") rfl), h2, h3, h4⟩
theorem i_MOST_PARTS_searching : ∃ t, mg "MOST_PARTS_searching" = some (.int 40 t) := He.int_ok X G (c.t.d.fact 96 (f := .int "MOST_PARTS_searching" 40) rfl)
theorem i_MOST_SHOWN_searching : ∃ t, mg "MOST_SHOWN_searching" = some (.int 6 t) := He.int_ok X G (c.t.d.fact 97 (f := .int "MOST_SHOWN_searching" 6) rfl)
theorem i_MOST_SHOWN_kinds : ∃ t, mg "MOST_SHOWN_kinds" = some (.int 5 t) := He.int_ok X G (c.t.d.fact 98 (f := .int "MOST_SHOWN_kinds" 5) rfl)
theorem i_MOST_PARTS_selves : ∃ t, mg "MOST_PARTS_selves" = some (.int 10 t) := He.int_ok X G (c.t.d.fact 99 (f := .int "MOST_PARTS_selves" 10) rfl)
theorem i_MOST_OUTER : ∃ t, mg "MOST_OUTER" = some (.int 2 t) := He.int_ok X G (c.t.d.fact 100 (f := .int "MOST_OUTER" 2) rfl)
theorem i_MOST_PARTS_desk : ∃ t, mg "MOST_PARTS_desk" = some (.int 120 t) := He.int_ok X G (c.t.d.fact 101 (f := .int "MOST_PARTS_desk" 120) rfl)
theorem i_LETTERS_trees : ∃ t, mg "LETTERS_trees" = some (.str "pqr" t) := He.str_ok X G (c.t.d.fact 102 (f := .str "LETTERS_trees" "pqr") rfl)
theorem i_LETTERS_desk : ∃ t, mg "LETTERS_desk" = some (.str "pqr" t) := He.str_ok X G (c.t.d.fact 103 (f := .str "LETTERS_desk" "pqr") rfl)
theorem i_LETTER : ∃ t, mg "LETTER" = some (.str "p" t) := He.str_ok X G (c.t.d.fact 104 (f := .str "LETTER" "p") rfl)
end
section
variable {P : Program} {w : World} {K : PySem.W.Frag} {mg : Str → Option Value} {h base : Heap} (X : K.In h) (G : h.Ns mainGlobals mg) (c : He.SaysX fa fn ts tf ex w h K)
include X G c
theorem f_kinds_of : Dc K mg "kinds_of" "kinds_of" "kinds_of" s_kinds_of ["saying"] (He.cT K ("kinds_of", none)).1 := by
  obtain ⟨fd, F⟩ := c.t.d.def_ 24 (d := d_kinds_of) rfl
  have b : Binds K fd ["saying"] [] := F.bindsN fun _ _ _ _ _ _ us hl => match us, hl with | [_], _ => rfl
  have F0 := F
  obtain ⟨oc, od, dV, kV, doc, pm, an, cdv, ct, osl, e, lk, hcd, _, _⟩ := F.ex
  obtain ⟨cc, ec⟩ := He.codeIn_ref hcd
  have e2 : fd.code = .ref cc := by rw [e]; exact ec
  have e3 : He.codeOf K ("kinds_of", none) = cc := He.codeOf_eq lk e2
  exact ⟨_, fd, F0, He.glo_ok X G (c.t.d.fact 22 (f := .glo "kinds_of") rfl), b, by show fd.code = .ref (He.codeOf K ("kinds_of", none)); rw [e3, e2]⟩
/-! the class facts -/
omit X G in
theorem ex_parts : ((oexB K (He.ga K "NoSaying") = true ∧ oexB K (He.ga K "HasLetter") = true) ∧ (initB K "NoSaying" "place" = true ∧ initB K "HasLetter" "letter" = true) ∧ (∀ x ∈ raisedX, excB K (He.ga K x) = true) ∧ (∀ x ∈ raisedX, ∀ y ∈ askedX, kitB K x y = true) ∧ (∀ x ∈ raisedX, PySem.W.kitOne K (.ref (He.ga K x)) (.type "ValueError") = some true)) ∧
    (valB K (He.ga K "SayError") "__init__" (.builtin "ValueError.__init__") = true ∧ valB K (He.ga K "Tree") "__init__" (.ref (He.ma K (He.ga K "Tree") "__init__")) = true) ∧ (PySem.W.fnIn K (He.ma K (He.ga K "Tree") "__init__") = true ∧ PySem.W.keepIn K (.ref (He.ma K (He.ga K "Tree") "__init__")) = true) ∧
    He.valsB K (He.ga K "SIGNS") [("and", .str "&"), ("or", .str "|"), ("if", .str ">")] = true ∧ He.valsB K (He.ga K "WORDS_texts") [("&", .str "and"), ("|", .str "or"), (">", .str "if")] = true ∧
    He.valsB K (He.ga K "WORDS_desk") [("say", .int 2), ("put", .int 3), ("judge", .int 1), ("alike", .int 2), ("row", .int 1), ("self", .int 1), ("kinds", .int 1)] = true := by
  have m := c.more
  unfold ex at m
  obtain ⟨m1, m⟩ := He.ba m
  obtain ⟨m2, m⟩ := He.ba m
  obtain ⟨m3, m⟩ := He.ba m
  obtain ⟨m4, m⟩ := He.ba m
  obtain ⟨m5, m⟩ := He.ba m
  obtain ⟨m6, m⟩ := He.ba m
  obtain ⟨m7, m⟩ := He.ba m
  obtain ⟨m8, m⟩ := He.ba m
  obtain ⟨m9, m10⟩ := He.ba m
  exact ⟨⟨He.ba m1, He.ba m2, fun x hx => List.all_eq_true.mp m3 x hx, fun x hx y hy => List.all_eq_true.mp (List.all_eq_true.mp m4 x hx) y hy, fun x hx => of_decide_eq_true (List.all_eq_true.mp m5 x hx)⟩, He.ba m6, He.ba m7, m8, m9, m10⟩
omit X G c in
theorem oex_ok {C : Addr} (e : oexB K C = true) : OexC K C := by
  unfold oexB at e
  obtain ⟨e1, e⟩ := He.ba e
  obtain ⟨e2, e⟩ := He.ba e
  obtain ⟨e3, e⟩ := He.ba e
  obtain ⟨e4, e5⟩ := He.ba e
  refine ⟨?_, He.eqO_ok e2, of_decide_eq_true e3, of_decide_eq_true e4, e5⟩
  split at e1
  · rename_i dd cd sl q
    split at e1
    · rename_i C' bm k0 k1 k2 k3 n k5 q1 q2
      obtain ⟨f1, e1⟩ := He.ba e1
      obtain ⟨f2, e1⟩ := He.ba e1
      obtain ⟨f3, e1⟩ := He.ba e1
      obtain ⟨f4, f5⟩ := He.ba e1
      have f1 : C' = C := by simpa using f1
      have f2 : n = "ValueError.__new__" := by simpa using f2
      obtain ⟨nm, bs, mro, ns, qn, hdct, sn, sub, ab, col, hdel⟩ := cd
      simp only at q1 f3 f4
      have f3 : hdel = false := by simpa using f3
      subst f1 f2 f3 f4 q1
      have f6 : sl = #[k0, k1, k2, k3, some (.builtin "ValueError.__new__"), k5] := by rw [← Array.toArray_toList (xs := sl), q2]
      subst f6
      exact ⟨nm, qn, ns, bs, bm, sn, sub, ab, col, dd, k0, k1, k2, k3, k5, q, f5⟩
    · cases e1
  · cases e1
end
end SD
namespace SD
open PySem PySem.Spec PyProof.Rows L2 SX
section
variable {w : World} {K : PySem.W.Frag} {mg : Str → Option Value}
theorem val_ok {C : Addr} {m : Str} {u : Value} (e : valB K C m u = true) : ClX.CRead K C (.type "type") ∧ PySem.W.findCls K (.ref C) (.type "type") m = some (.val u) := by
  unfold valB at e
  obtain ⟨e1, e⟩ := He.ba e
  obtain ⟨e2, e3⟩ := He.ba e
  refine ⟨⟨e1, He.eqO_ok e2⟩, ?_⟩
  split at e3
  · rename_i v q
    rw [q, of_decide_eq_true e3]
  · cases e3
theorem init_ok {x f : Str} (e : initB K x f = true) : PySem.W.findIn K (xc K x) "__init__" = some (some (.ref (He.ma K (He.ga K x) "__init__"))) ∧ PySem.W.typeIn K (.ref (He.ma K (He.ga K x) "__init__")) = some (.type "function") ∧ PySem.W.findIn K (xc K x) f = some none := by
  unfold initB at e
  obtain ⟨e1, e⟩ := He.ba e
  obtain ⟨e2, e3⟩ := He.ba e
  exact ⟨He.eqO_ok e1, of_decide_eq_true e2, He.eqO_ok e3⟩
theorem exc_ok2 {C : Addr} (e : excB K C = true) : ExcC K C ∧ XfC K C := by
  unfold excB at e
  obtain ⟨e1, e⟩ := He.ba e
  obtain ⟨e2, e⟩ := He.ba e
  obtain ⟨e3, e⟩ := He.ba e
  obtain ⟨e4, e⟩ := He.ba e
  obtain ⟨e5, e⟩ := He.ba e
  obtain ⟨e6, e⟩ := He.ba e
  obtain ⟨e7, e8⟩ := He.ba e
  exact ⟨⟨He.eqO_ok e1, He.eqO_ok e2, of_decide_eq_true e3, e4, He.eqO_ok e5, He.eqO_ok e6, of_decide_eq_true e7, of_decide_eq_true e8⟩, ⟨He.eqO_ok e1, He.eqO_ok e2, of_decide_eq_true e3, e4⟩⟩
theorem tab_ok {x : Str} {kvs : List (Str × He.Dv)} (hg : mg x = some (.ref (He.ga K x))) (hk : ∃ es n, KDict K w (He.ga K x) es n) (hv : He.valsB K (He.ga K x) kvs = true) : TabAt K w mg x (kvs.map fun q => (q.1, q.2.v K)) := by
  obtain ⟨es, n, hd⟩ := hk
  refine ⟨_, es, n, hg, hd, fun p hp => ?_⟩
  obtain ⟨q, hq, rfl⟩ := List.mem_map.mp hp
  obtain ⟨u, h1, h2⟩ := He.valsB_ok hv hq
  exact ⟨es, n, u, hd.at_, hd.lit, h1, h2⟩
end
section
variable {P : Program} {w : World} {K : PySem.W.Frag} {mg : Str → Option Value} {h base : Heap} (X : K.In h) (G : h.Ns mainGlobals mg) (c : He.SaysX fa fn ts tf ex w h K)
include X G c
theorem t_SIGNS : TabAt K w mg "SIGNS" [("and", .str "&"), ("or", .str "|"), ("if", .str ">")] := tab_ok (He.glo_ok X G (c.t.d.facts (f := .glo "SIGNS") (by simp [fa, fa0, fa1, fa2, fa3, fa4, fa5, fa6]))) (c.t.tab 0) (ex_parts c).2.2.2.1
theorem t_WORDS : TabAt K w mg "WORDS_texts" [("&", .str "and"), ("|", .str "or"), (">", .str "if")] := tab_ok (He.glo_ok X G (c.t.d.facts (f := .glo "WORDS_texts") (by simp [fa, fa0, fa1, fa2, fa3, fa4, fa5, fa6]))) (c.t.tab 1) (ex_parts c).2.2.2.2.1
theorem t_desk : TabAt K w mg "WORDS_desk" deskTab := tab_ok (He.glo_ok X G (c.t.d.facts (f := .glo "WORDS_desk") (by simp [fa, fa0, fa1, fa2, fa3, fa4, fa5, fa6]))) (c.t.tab 2) (ex_parts c).2.2.2.2.2
theorem g_SayError : mg "SayError" = some (xc K "SayError") := He.glo_ok X G (c.t.d.facts (f := .glo "SayError") (by simp [fa, fa0, fa1, fa2, fa3, fa4, fa5, fa6]))
theorem g_NoSaying : mg "NoSaying" = some (xc K "NoSaying") := He.glo_ok X G (c.t.d.facts (f := .glo "NoSaying") (by simp [fa, fa0, fa1, fa2, fa3, fa4, fa5, fa6]))
theorem g_HasLetter : mg "HasLetter" = some (xc K "HasLetter") := He.glo_ok X G (c.t.d.facts (f := .glo "HasLetter") (by simp [fa, fa0, fa1, fa2, fa3, fa4, fa5, fa6]))
theorem g_NoLine : mg "NoLine" = some (xc K "NoLine") := He.glo_ok X G (c.t.d.facts (f := .glo "NoLine") (by simp [fa, fa0, fa1, fa2, fa3, fa4, fa5, fa6]))
theorem g_NoRule : mg "NoRule" = some (xc K "NoRule") := He.glo_ok X G (c.t.d.facts (f := .glo "NoRule") (by simp [fa, fa0, fa1, fa2, fa3, fa4, fa5, fa6]))
theorem g_NoTree : mg "NoTree" = some (xc K "NoTree") := He.glo_ok X G (c.t.d.facts (f := .glo "NoTree") (by simp [fa, fa0, fa1, fa2, fa3, fa4, fa5, fa6]))
theorem g_Tree : mg "Tree" = some (xc K "Tree") := He.glo_ok X G (c.t.d.facts (f := .glo "Tree") (by simp [fa, fa0, fa1, fa2, fa3, fa4, fa5, fa6]))
theorem g_Chain : mg "Chain" = some (xc K "Chain") := He.glo_ok X G (c.t.d.facts (f := .glo "Chain") (by simp [fa, fa0, fa1, fa2, fa3, fa4, fa5, fa6]))
theorem g_Desk : mg "Desk" = some (xc K "Desk") := He.glo_ok X G (c.t.d.facts (f := .glo "Desk") (by simp [fa, fa0, fa1, fa2, fa3, fa4, fa5, fa6]))
theorem xi_S : Xi P w K mg base "NoSaying" "place" := by
  have m := ex_parts c
  obtain ⟨i1, i2, i3⟩ := init_ok m.1.2.1.1
  obtain ⟨v1, v2⟩ := val_ok m.2.1.1
  exact xi_NoSaying (oex_ok m.1.1.1) (g_NoSaying X G c) i3 i1 i2 (f_NoSaying_init c) (g_SayError X G c) v1 v2
theorem xi_L : Xi P w K mg base "HasLetter" "letter" := by
  have m := ex_parts c
  obtain ⟨i1, i2, i3⟩ := init_ok m.1.2.1.2
  obtain ⟨v1, v2⟩ := val_ok m.2.1.1
  exact xi_HasLetter (oex_ok m.1.1.2) (g_HasLetter X G c) i3 i1 i2 (f_HasLetter_init c) (g_SayError X G c) v1 v2
theorem k_C : KitC K mg := by
  have m := ex_parts c
  have rx : ∀ b : Bad, b.cls ∈ raisedX := fun b => by cases b <;> simp [raisedX, Bad.cls]
  have kt : ∀ (b : Bad) (y : Str), y ∈ askedX → PySem.W.kitOne K (xc K b.cls) (xc K y) = some (decide (b.cls = y)) := fun b y hy => of_decide_eq_true (m.1.2.2.2.1 _ (rx b) y hy)
  have no : ∀ (b : Bad) (y : Str), y ∈ askedX → decide (b.cls = y) = false → PySem.W.kitOne K (xc K b.cls) (xc K y) = some false := fun b y hy e => by rw [kt b y hy, e]
  refine ⟨fun b => no b _ (by simp [askedX]) (by cases b <;> refine decide_eq_false ?_ <;> simp only [Bad.cls] <;> decide +kernel), fun b => kt b _ (by simp [askedX]), fun b => kt b _ (by simp [askedX]), fun b => kt b _ (by simp [askedX]), fun b => kt b _ (by simp [askedX]), fun b => kt b _ (by simp [askedX]),
    fun b => no b _ (by simp [askedX]) (by cases b <;> refine decide_eq_false ?_ <;> simp only [Bad.cls] <;> decide +kernel), fun b => no b _ (by simp [askedX]) (by cases b <;> refine decide_eq_false ?_ <;> simp only [Bad.cls] <;> decide +kernel), fun b => m.1.2.2.2.2 _ (rx b), fun b => ?_, fun b => (exc_ok2 (m.1.2.2.1 _ (rx b))).1, fun b => (exc_ok2 (m.1.2.2.1 _ (rx b))).2,
    (init_ok m.1.2.1.1).2.2, (init_ok m.1.2.1.2).2.2, fun x hx => ?_, He.free_ok X G (c.t.d.facts (f := .free "ValueError") (by simp [fa, fa0, fa1, fa2, fa3, fa4, fa5, fa6, fa7]))⟩
  · cases b
    · exact He.exm_ok (c.t.d.facts (f := .exm "Nothing" "SayError" true) (by simp [fa, fa0, fa1, fa2, fa3, fa4, fa5, fa6, fa7, fa8, fa9, fa10]))
    · exact He.exm_ok (c.t.d.facts (f := .exm "NoSaying" "SayError" true) (by simp [fa, fa0, fa1, fa2, fa3, fa4, fa5, fa6, fa7, fa8, fa9, fa10]))
    · exact He.exm_ok (c.t.d.facts (f := .exm "HasLetter" "SayError" true) (by simp [fa, fa0, fa1, fa2, fa3, fa4, fa5, fa6, fa7, fa8, fa9, fa10]))
    · exact He.exm_ok (c.t.d.facts (f := .exm "TooMany" "SayError" true) (by simp [fa, fa0, fa1, fa2, fa3, fa4, fa5, fa6, fa7, fa8, fa9, fa10]))
    · exact He.exm_ok (c.t.d.facts (f := .exm "Outside" "SayError" true) (by simp [fa, fa0, fa1, fa2, fa3, fa4, fa5, fa6, fa7, fa8, fa9, fa10]))
  · simp only [List.mem_cons, List.not_mem_nil, or_false] at hx
    rcases hx with rfl | rfl | rfl | rfl | rfl | rfl | rfl | rfl | rfl
    · exact g_NoLine X G c
    · exact (x_Nothing X G c).at_
    · exact g_NoSaying X G c
    · exact g_HasLetter X G c
    · exact (x_TooMany X G c).at_
    · exact (x_Outside X G c).at_
    · exact g_NoRule X G c
    · exact g_NoTree X G c
    · exact g_SayError X G c
omit X G in
theorem d_C : DeskC K := ⟨He.cls_ok (c.t.d.facts (f := .cls "Desk") (by simp [fa, fa0, fa1, fa2, fa3, fa4, fa5, fa6, fa7, fa8, fa9, fa10])), He.noat_ok (c.t.d.facts (f := .noat "Desk" "kept") (by simp [fa, fa0, fa1, fa2, fa3, fa4, fa5, fa6, fa7, fa8, fa9, fa10]))⟩
end
end SD
namespace SD
open PySem PySem.Spec PyProof.Rows L2 SX
section
variable {P : Program} {w : World} {K : PySem.W.Frag} {mg : Str → Option Value} {h base : Heap} (X : K.In h) (G : h.Ns mainGlobals mg) (c : He.SaysX fa fn ts tf ex w h K)
include X G c
abbrev codeK (K : PySem.W.Frag) : Addr := (He.cT K ("kinds_of", none)).1
abbrev tabK (K : PySem.W.Frag) : Addr := (He.cT K ("kinds_of", none)).2
/-- the sayings -/
structure Base1 (P : Program) (w : World) (K : PySem.W.Frag) (mg : Str → Option Value) (base : Heap) : Prop where
  cZ : ∀ n : Nat, Cl P w K mg base CX0 (n + 1) "size_of" (spSize n)
  cD : Cl P w K mg base CX0 131 "depth_of" (spDepth 130)
  cO : Cl P w K mg base CX0 1 "each_once" (spOnce (K := K))
  cP : Cl P w K mg base CX0 153 "parts_of" spParts
  cS : Cl P w K mg base CX0 154 "shown_parts" spShown
  cL : Cl P w K mg base CX0 154 "letters_of" spLetters
  cLN : ∀ n : Nat, Cl P w K mg base CX0 (n + 3) "letters_of" (spLettersN n)
  cTh : Cl P w K mg base CX0 155 "things_of" spThings
  cU : Cl P w K mg base CX0 2 "unlike" (spOnce (K := K))
  cCl : Cl P w K mg base CX0 3 "claim_of" (spClaim (K := K))
  cPut : Cl P w K mg base CX0 131 "put" (spPut 130)
  cW : Cl P w K mg base CX0 131 "written" (spText 130)
theorem base1 : Base1 P w K mg base := by
  have T := f_Tx X G c
  have cI : Cl P w K mg base CX0 1 "inner_of" spInner := cl_inner (f_inner_of X G c) T
  have cO : Cl P w K mg base CX0 1 "each_once" (spOnce (K := K)) := cl_once (f_each_once X G c) T
  have cPN : ∀ n : Nat, Cl P w K mg base CX0 (n + 2) "parts_of" (spPartsN n) := fun n => cl_partsN n (f_parts_of X G c) (cl_gather (f_gather X G c) T cI n) cO
  have cLN : ∀ n : Nat, Cl P w K mg base CX0 (n + 3) "letters_of" (spLettersN n) := fun n => cl_lettersN n (f_letters_of X G c) (cPN n)
  have cP : Cl P w K mg base CX0 153 "parts_of" spParts := cl_parts (cPN 151)
  have cS := cl_shown (f_shown_parts X G c) cP
  have cL := cl_letters (cLN 151)
  have cU := cl_unlike (f_unlike X G c) cO
  exact ⟨cl_size (f_size_of X G c) T cI, cl_depth (f_depth_of X G c) T cI 130, cO, cP, cS, cL, cLN, cl_things (f_things_of X G c) cL cS, cU, cl_claim (f_claim_of X G c) cU, cl_put (f_put X G c) T 130, cl_written (f_written X G c) (t_SIGNS X G c) 130⟩
/-- what is refused -/
structure Base2 (P : Program) (w : World) (K : PySem.W.Frag) (mg : Str → Option Value) (base : Heap) : Prop where
  cJ : Cl P w K mg base (L2.CX P w) 157 "judged" (spJudged (K := K))
  cA : Cl P w K mg base (L2.CX P w) 157 "alike" (spAlike (K := K))
  cAns : Cl P w K mg base (L2.CX P w) 127 "answer" (spAnswer (K := K))
theorem base2 (B : Base1 P w K mg base) : Base2 P w K mg base := by
  have T := f_Tx X G c
  have cF1 : Cl P w K mg base CX0 154 "parts_of" (spNew fun t => True) := (B.cP.mono (by omega)).imp fun vs H Q E ⟨v, s, e, a, b, d, n⟩ => ⟨v, s, e, a, b, d, n.imp fun t => by simp⟩
  have cF2 : Cl P w K mg base CX0 154 "shown_parts" (spNew fun t => t.isShown = true) := B.cS.imp fun vs H Q E h => h
  have cSr : Cl P w K mg base (L2.CX P w) 156 "searched" (spSearched (K := K)) := cl_searched (f_searched X G c) T (cl_claim_parts (f_claim_parts X G c) cF1 B.cU) (cl_claim_shown (f_claim_shown X G c) cF2 B.cU) (i_MOST_PARTS_searching X G c) (i_MOST_SHOWN_searching X G c) (x_TooMany X G c)
  have cG : Cl P w K mg base (L2.CX P w) 125 "gather_selves" (spGather2 (K := K) 121) := cl_gather2 (f_gather2 X G c) B.cLN (i_LETTER X G c) (x_Outside X G c) 121
  exact ⟨cl_judged (f_judged X G c) B.cCl cSr, cl_alike (f_alike X G c) B.cCl cSr, cl_answer (f_answer X G c) T (cl_outer (f_outer_parts X G c) cG B.cO) (B.cZ 121) (i_MOST_PARTS_selves X G c) (i_MOST_OUTER X G c) (x_TooMany X G c)⟩
/-- chains, texts, lines, kinds -/
structure Base3 (P : Program) (w : World) (K : PySem.W.Frag) (mg : Str → Option Value) (base : Heap) : Prop where
  cRd : Cl P w K mg base (L2.CX P w) 134 "read" (spReadAll (K := K) 130)
  Ch : ChainC P w K mg base
  cRow : Cl P w K mg base (L2.CX P w) 155 "row_of" (spRow (K := K))
  cLn : Cl P w K mg base CX0 2 "line_words" spLine
  sg : Cl P w K mg base CX0 1 "signs_of" (spSigns (K := K))
theorem base3 (B : Base1 P w K mg base) : Base3 P w K mg base := by
  have T := f_Tx X G c
  have m := ex_parts c
  have cRd : Cl P w K mg base (L2.CX P w) 134 "read" (spReadAll (K := K) 130) := cl_read 130 (f_read X G c) T (cl_read_from (f_read_from X G c) (cl_sign_at (f_sign_at X G c) T (xi_S X G c)) (t_WORDS X G c) 130) (xi_S X G c)
  have cLook : Cl P w K mg base CX0 2 "look_over" (spLook (K := K)) := cl_look (f_look_over X G c) T (cl_are_marks (f_are_marks X G c) T (i_LETTERS_trees X G c))
  have cTr : Cl P w K mg base CX0 131 "truths_in" (spTruths (K := K) 130) := cl_truths (f_truths_in X G c) T (cl_all (f_all_above X G c) T) (cl_joined (f_joined X G c) T) 130
  obtain ⟨v1, v2⟩ := val_ok m.2.1.2
  have Ch : ChainC P w K mg base := ⟨g_Chain X G c, He.cls_ok (c.t.d.facts (f := .cls "Chain") (by simp [fa, fa0, fa1, fa2, fa3, fa4, fa5, fa6, fa7, fa8, fa9, fa10])), He.noat_ok (c.t.d.facts (f := .noat "Chain" "kept") (by simp [fa, fa0, fa1, fa2, fa3, fa4, fa5, fa6, fa7, fa8, fa9, fa10])),
    ⟨_, He.mkr_ok (c.t.d.facts (f := .mkr "Chain") (by simp [fa, fa0, fa1, fa2, fa3, fa4, fa5, fa6, fa7, fa8, fa9, fa10])), ca_chainI (f_Chain_init c) T (g_Tree X G c) v1 v2 m.2.2.1.2 (ca_treeI (f_Tree_init c) cLook)⟩,
    ⟨_, He.meth_ok (c.t.d.facts (f := .meth "Chain" "holds") (by simp [fa, fa0, fa1, fa2, fa3, fa4, fa5, fa6, fa7, fa8, fa9, fa10])), ca_holds (f_Tree_holds c) cTr⟩⟩
  have cMo : Cl P w K mg base CX0 1 "marks_of" spMarksOf := cl_marks_of (f_marks_of X G c) (i_LETTERS_desk X G c)
  exact ⟨cRd, Ch, cl_row (f_row_of X G c) T B.cL B.cD Ch (xi_L X G c), cl_line (f_line_words X G c) T cMo (t_desk X G c) (i_LETTERS_desk X G c), cl_signs (f_signs_of X G c) T⟩
theorem said (TB : LamX.TabB base mg (codeK K) (tabK K)) : Cl P w K mg base CX0 202 "_law_said" (spSaid (K := K) (tabK K) qKinds) := by
  have T := f_Tx X G c
  have B : Base1 P w K mg base := base1 X G c
  have B2 := base2 X G c B
  have B3 := base3 X G c B
  have cRows : Cl P w K mg base CX0 2 "rows_of" spRows := cl_rows (f_rows_of X G c) T (cl_crossed (f_crossed X G c))
  have cCan : Cl P w K mg base CX0 2 "can_be" (spCan (K := K)) := cl_can (f_can_be X G c) T (cl_bears (f_bears X G c) T)
  have cBK : ∀ n : Nat, Cl P w K mg base CX0 (n + 1) "by_kind" (spByKind (K := K) n) := cl_by_kind (f_by_kind X G c)
  have cK := cl_kinds (f_kinds_of X G c) T TB B.cTh B.cS cRows cCan cBK (i_MOST_SHOWN_kinds X G c) (x_TooMany X G c)
  have cT := cl_tried (f_tried X G c) T B.cTh cBK cK
  have D := d_C c
  have caC := ca_changed (f_Desk_changed c) D B.cPut (B.cZ 130) B.cW (i_MOST_PARTS_desk X G c) (x_TooMany X G c)
  have caJ := ca_jl (f_Desk_judged_line c) D B2.cJ B2.cA B3.cRd
  have caS := ca_say (f_Desk_say c) D T B3.cLn B3.cRd (B.cZ 130) B.cD (x_Nothing X G c) (He.meth_ok (c.t.d.facts (f := .meth "Desk" "changed") (by simp [fa, fa0, fa1, fa2, fa3, fa4, fa5, fa6, fa7, fa8, fa9, fa10]))) caC
    (He.meth_ok (c.t.d.facts (f := .meth "Desk" "judged_line") (by simp [fa, fa0, fa1, fa2, fa3, fa4, fa5, fa6, fa7, fa8, fa9, fa10]))) caJ B3.Ch B3.sg B3.cRow B2.cAns B.cW cT cK
  have kC := k_C X G c
  exact cl_said (f_law_said X G c) D kC (He.meth_ok (c.t.d.facts (f := .meth "Desk" "say") (by simp [fa, fa0, fa1, fa2, fa3, fa4, fa5, fa6, fa7, fa8, fa9, fa10]))) caS (cl_kind (f_law_kind X G c) T kC)
/-- the lines that the law makes -/
theorem law_fn {f : Addr} {fd : FuncData} (F : FunD K "law" "law" (defArgs s_law) (defBody s_law) (defScope s_law) [] [] f fd) (TB : LamX.TabB base mg (codeK K) (tabK K)) : FnOk P w K mg base CX0 203 f fd ["_law_script"] (spLaw (K := K) (tabK K) qKinds) := by
  have T := f_Tx X G c
  have lZ : Cl P w K mg base CX0 131 "_law_size" (spSize 130) := cl_lsize (f_law_size X G c) T 130
  have lD : Cl P w K mg base CX0 131 "_law_depth" (spDepth 130) := cl_ldepth (f_law_depth X G c) T 130
  have lO : Cl P w K mg base CX0 131 "_law_outside" (spOutside 130) := cl_loutside (f_law_outside X G c) T 130
  have lSh : Cl P w K mg base CX0 131 "_law_shown" (spLShown 130) := cl_lshown (f_law_shown X G c) 130
  have lT : Cl P w K mg base CX0 131 "_law_text" (spText 130) := cl_ltext (f_law_text X G c) 130
  have lP : Cl P w K mg base CX0 131 "_law_put" (spLPut 130) := cl_lput (f_law_put X G c) T 130
  have lG : Cl P w K mg base CX0 132 "_law_grown" (spGrown (K := K)) := cl_grown (f_law_grown X G c) T (cl_mix (f_law_mix X G c) T) (cl_leaf (f_law_leaf X G c) T) (cl_ljoined (f_law_joined X G c)) lZ lSh
  have lB : Cl P w K mg base CX0 1 "_law_bad" spBad := cl_bad (f_law_bad X G c)
  have lF : Cl P w K mg base CX0 14 "_law_free" (spFree 13) := cl_free (f_law_free X G c) 13
  have lSg : Cl P w K mg base CX0 1 "_law_signs" (spSigns (K := K)) := cl_lsigns (f_law_signs X G c) T
  have lLet : Cl P w K mg base CX0 132 "_law_letters" spLLet := cl_lletters (f_law_letters X G c) lT
  have lU : Cl P w K mg base CX0 1 "_law_ups" (spUps (K := K)) := cl_ups (f_law_ups X G c) T
  have lW : Cl P w K mg base CX0 131 "_law_worth" (spWorth (K := K) 130) := cl_worth (f_law_worth X G c) T 130
  have cSay := cl_say_line (f_law_say_line X G c) T lB lG lF lP lT lZ lD
  have cPut := cl_put_line (f_law_put_line X G c) T lB lG lF lP lT lZ
  have cRow := cl_row_line (f_law_row_line X G c) T lLet lD lU lW lSg
  have cAsk := cl_asked_line (f_law_asked_line X G c) T lSh lT lO lZ
  have cCh := cl_chain_line (f_law_chain_line X G c) T lU lW lSg
  have D := d_C c
  exact cl_law F T D (g_Desk X G c) (He.mkr_ok (c.t.d.facts (f := .mkr "Desk") (by simp [fa, fa0, fa1, fa2, fa3, fa4, fa5, fa6, fa7, fa8, fa9, fa10]))) (ca_deskI (f_Desk_init c) D) cSay cPut cRow cAsk cCh (said X G c TB)
/-- what the end asks -/
theorem law_at {f : Addr} (hmg : mg "law" = some (.ref f)) : LamX.LawAtS PySem.Challenge.rw_selfsay_k76_whole_desk_walked w K CX0 203 63 "_law_script" mg f h := by
  obtain ⟨fd, F⟩ := c.t.d.defs (d := d_law) (by simp [fn, fn0, fn1, fn2, fn3, fn4, fn5, fn6])
  have e := hmg.symm.trans (He.glo_ok X G (c.t.d.facts (f := .glo "law") (by simp [fa, fa0, fa1, fa2, fa3, fa4, fa5])))
  cases e
  refine ⟨fd, [(codeK K, tabK K)], spLaw (K := K) (tabK K) qKinds, fun p hp => ?_, fun p hp => ?_, fun p hp => ?_, fun s u => ?_, fun H a ns hl hb hT hS => ?_, fun base KB GB TB => ?_⟩
  · rw [List.mem_singleton.mp hp]; exact c.empty _ List.mem_cons_self
  · rw [List.mem_singleton.mp hp]; exact c.out _ List.mem_cons_self
  · rw [List.mem_singleton.mp hp]; exact PySem.W.codeHd_of_K X (c.hd _ List.mem_cons_self)
  · exact FunD.bindsA (ps := ["_law_script"]) F (fun _ _ _ _ _ _ us hl => match us, hl with | [_], _ => rfl) s [u] rfl
  · exact ⟨a, ns, rfl, hS, by omega, LamX.TabS.nil (hT _ List.mem_cons_self), fun _ => rfl⟩
  · exact law_fn X G c F (TB _ List.mem_cons_self)
end
end SD
open PySem PySem.W PySem.Calls PyProof.Rows
theorem PySem.Challenge.cw_selfsay_k76_whole_desk_walked_holds : PySem.Challenge.rw_selfsay_k76_whole_desk_walked.Holds := by
  w_on; o_law
  refine HandSHeadRun.head_any (r := OpenLaw.row PySem.Challenge.rw_selfsay_k76_whole_desk_walked) (q := SD.QQ) (H := SD.hkX) (ob := SD.obX) (M := 7000) (loose := SD.loose) (d := HandSHeadRun.topDef (OpenLaw.row PySem.Challenge.rw_selfsay_k76_whole_desk_walked).prog 117) (kwd := []) SD.obX_eq
    (by kernel_rfl) (fun s => by kernel_rfl) SD.runX (by kernel_rfl) (by kernel_rfl) (by kernel_rfl) (by rfl) (by first | assumption | decide +kernel) (by decide +kernel) ⟨rfl, rfl, rfl, rfl, rfl, by decide +kernel⟩ ?hw ?hc
  case hw => w_witness2
  case hc =>
    refine LamX.walk_ofTsE (l := PySem.Challenge.rw_selfsay_k76_whole_desk_walked) (n := 63) (k := 203) (x := "_law_script") (CX := fun _ => L2.CX0) rfl (by decide) (by kernel_rfl) ⟨rfl, by decide, by decide⟩ ?F (fun _ _ _ _ _ z => z)
    intro w mg fa h Y G hmg0
    obtain ⟨K, KX, c⟩ := Y
    have hmg : mg ("law" : PySem.Str) = some (.ref fa) := by
      have e : (HandSHeadRun.topDef (OpenLaw.row PySem.Challenge.rw_selfsay_k76_whole_desk_walked).prog 117).name = ("law" : PySem.Str) := by kernel_rfl
      rw [← e]
      exact hmg0
    exact ⟨K, KX, SD.law_at KX G c hmg⟩
