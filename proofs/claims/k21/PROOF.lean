import PyProof.Rows.All
import Wide.All
import OpenK.AllK
import Wide.FinOn
import KE.KStateDown
import Lean
import HandS.ForMost
import HandS.WordsExc
import HandS.Exc
import HandS.More
import HandS.Defaults
import HandS.Flow
import HandS.Style
import HandS.StrMore
import HandS.Replace
import HandS.ReplaceDef
import HandS.ReplaceList
import HandS.ReplaceLit
import HandS.Walk
import HandS.Steps
import HandS.Head0
import HandS.Head1
import HandS.Head2
import HandS.HeadEnd
import HandS.HeadHook1
import HandS.HeadHook2
import HandS.HeadHook3
import HandS.HeadHook4
import KE.DataEq
import PySem.Challenge.RW_indentokens_k21_whole_insides_are_hidden
set_option Elab.async false
set_option linter.all false
set_option maxRecDepth 100000
set_option maxHeartbeats 0
namespace G3
open PySem L2 TL PySem.Spec PyProof.Rows
section
def topS (i : Nat) : Stmt := PySem.Challenge.pw_indentokens_k21_whole_insides_are_hidden.main.body.getD i (.Pass ⟨0, 0, 0, 0⟩)
abbrev s_is_word_character : Stmt := topS 12
abbrev s_name_end : Stmt := topS 13
abbrev s_operator_end : Stmt := topS 16
abbrev s_quote_at : Stmt := topS 17
abbrev s_string_end : Stmt := topS 18
abbrev s_Frame_init : Stmt := inClass (topS 25) 0
abbrev s_width_of : Stmt := topS 26
abbrev s_Scanner_init : Stmt := inClass (topS 27) 0
abbrev s_Scanner_add : Stmt := inClass (topS 27) 1
abbrev s_Scanner_add_lexeme : Stmt := inClass (topS 27) 2
abbrev s_Scanner_finish : Stmt := inClass (topS 27) 8
abbrev s_Scanner_comment_end : Stmt := inClass (topS 27) 10
abbrev s_Scanner_read_comment : Stmt := inClass (topS 27) 11
abbrev s_Scanner_read_line_feed : Stmt := inClass (topS 27) 12
abbrev s_Scanner_read_last_gap : Stmt := inClass (topS 27) 14
abbrev s_Scanner_read_empty_line : Stmt := inClass (topS 27) 15
abbrev s_Scanner_compare_indentation : Stmt := inClass (topS 27) 16
abbrev s_Scanner_read_indentation : Stmt := inClass (topS 27) 13
abbrev s_Scanner_read_string : Stmt := inClass (topS 27) 19
abbrev s_Scanner_begin_string : Stmt := inClass (topS 27) 20
abbrev s_Scanner_read_word : Stmt := inClass (topS 27) 18
abbrev s_Scanner_read_operator : Stmt := inClass (topS 27) 21
abbrev s_Scanner_read_lexeme : Stmt := inClass (topS 27) 17
abbrev s_Scanner_add_part : Stmt := inClass (topS 27) 23
abbrev s_Scanner_part_end : Stmt := inClass (topS 27) 24
abbrev s_Scanner_read_part : Stmt := inClass (topS 27) 25
abbrev s_Scanner_read_step : Stmt := inClass (topS 27) 7
abbrev s_Scanner_read_on : Stmt := inClass (topS 27) 6
abbrev s_Scanner_feed : Stmt := inClass (topS 27) 4
abbrev s_Scanner_close : Stmt := inClass (topS 27) 5
abbrev s_read : Stmt := topS 29
abbrev s_law_bag : Stmt := topS 31
abbrev s_law_take : Stmt := topS 32
abbrev s_law_pick : Stmt := topS 33
abbrev s_law_plain : Stmt := topS 34
abbrev s_law_atom : Stmt := topS 35
abbrev s_law_row : Stmt := topS 36
abbrev s_law_formatted : Stmt := topS 37
abbrev s_law_source : Stmt := topS 38
abbrev s_law_spoilt : Stmt := topS 39
abbrev s_law_any_source : Stmt := topS 40
abbrev s_law_without : Stmt := topS 41
abbrev s_law_right : Stmt := topS 42
abbrev s_law_formatted_right : Stmt := topS 43
abbrev s_law_comment_right : Stmt := topS 44
abbrev s_law : Stmt := topS 45
abbrev n_is_word_character : List Str := ["character"]
abbrev p_is_word_character : List Str := ["character"]
theorem sc_is_word_character : FnScope n_is_word_character p_is_word_character (defScope s_is_word_character) := ⟨rfl, rfl, rfl, by decide +kernel, rfl, by decide +kernel, by decide +kernel⟩
abbrev n_name_end : List Str := ["text", "at"]
abbrev p_name_end : List Str := ["text", "at"]
theorem sc_name_end : FnScope n_name_end p_name_end (defScope s_name_end) := ⟨rfl, rfl, rfl, by decide +kernel, rfl, by decide +kernel, by decide +kernel⟩
abbrev n_operator_end : List Str := ["text", "at", "is_final", "rest", "sign"]
abbrev p_operator_end : List Str := ["text", "at", "is_final"]
theorem sc_operator_end : FnScope n_operator_end p_operator_end (defScope s_operator_end) := ⟨rfl, rfl, rfl, by decide +kernel, rfl, by decide +kernel, by decide +kernel⟩
abbrev n_quote_at : List Str := ["text", "at", "is_final", "quote"]
abbrev p_quote_at : List Str := ["text", "at", "is_final"]
theorem sc_quote_at : FnScope n_quote_at p_quote_at (defScope s_quote_at) := ⟨rfl, rfl, rfl, by decide +kernel, rfl, by decide +kernel, by decide +kernel⟩
abbrev n_string_end : List Str := ["text", "at", "quote", "is_final"]
abbrev p_string_end : List Str := ["text", "at", "quote", "is_final"]
theorem sc_string_end : FnScope n_string_end p_string_end (defScope s_string_end) := ⟨rfl, rfl, rfl, by decide +kernel, rfl, by decide +kernel, by decide +kernel⟩
abbrev n_Frame_init : List Str := ["self", "mark", "at", "quote"]
abbrev p_Frame_init : List Str := ["self", "mark", "at", "quote"]
theorem sc_Frame_init : FnScope n_Frame_init p_Frame_init (defScope s_Frame_init) := ⟨rfl, rfl, rfl, by decide +kernel, rfl, by decide +kernel, by decide +kernel⟩
abbrev n_width_of : List Str := ["gap", "width", "character"]
abbrev p_width_of : List Str := ["gap"]
theorem sc_width_of : FnScope n_width_of p_width_of (defScope s_width_of) := ⟨rfl, rfl, rfl, by decide +kernel, rfl, by decide +kernel, by decide +kernel⟩
abbrev n_Scanner_init : List Str := ["self"]
abbrev p_Scanner_init : List Str := ["self"]
theorem sc_Scanner_init : FnScope n_Scanner_init p_Scanner_init (defScope s_Scanner_init) := ⟨rfl, rfl, rfl, by decide +kernel, rfl, by decide +kernel, by decide +kernel⟩
abbrev n_Scanner_add : List Str := ["self", "kind", "end"]
abbrev p_Scanner_add : List Str := ["self", "kind", "end"]
theorem sc_Scanner_add : FnScope n_Scanner_add p_Scanner_add (defScope s_Scanner_add) := ⟨rfl, rfl, rfl, by decide +kernel, rfl, by decide +kernel, by decide +kernel⟩
abbrev n_Scanner_add_lexeme : List Str := ["self", "kind", "end"]
abbrev p_Scanner_add_lexeme : List Str := ["self", "kind", "end"]
theorem sc_Scanner_add_lexeme : FnScope n_Scanner_add_lexeme p_Scanner_add_lexeme (defScope s_Scanner_add_lexeme) := ⟨rfl, rfl, rfl, by decide +kernel, rfl, by decide +kernel, by decide +kernel⟩
abbrev n_Scanner_finish : List Str := ["self", "level"]
abbrev p_Scanner_finish : List Str := ["self"]
theorem sc_Scanner_finish : FnScope n_Scanner_finish p_Scanner_finish (defScope s_Scanner_finish) := ⟨rfl, rfl, rfl, by decide +kernel, rfl, by decide +kernel, by decide +kernel⟩
abbrev n_Scanner_comment_end : List Str := ["self", "at", "end"]
abbrev p_Scanner_comment_end : List Str := ["self", "at"]
theorem sc_Scanner_comment_end : FnScope n_Scanner_comment_end p_Scanner_comment_end (defScope s_Scanner_comment_end) := ⟨rfl, rfl, rfl, by decide +kernel, rfl, by decide +kernel, by decide +kernel⟩
abbrev n_Scanner_read_comment : List Str := ["self", "end"]
abbrev p_Scanner_read_comment : List Str := ["self"]
theorem sc_Scanner_read_comment : FnScope n_Scanner_read_comment p_Scanner_read_comment (defScope s_Scanner_read_comment) := ⟨rfl, rfl, rfl, by decide +kernel, rfl, by decide +kernel, by decide +kernel⟩
abbrev n_Scanner_read_line_feed : List Str := ["self"]
abbrev p_Scanner_read_line_feed : List Str := ["self"]
theorem sc_Scanner_read_line_feed : FnScope n_Scanner_read_line_feed p_Scanner_read_line_feed (defScope s_Scanner_read_line_feed) := ⟨rfl, rfl, rfl, by decide +kernel, rfl, by decide +kernel, by decide +kernel⟩
abbrev n_Scanner_read_last_gap : List Str := ["self", "end"]
abbrev p_Scanner_read_last_gap : List Str := ["self", "end"]
theorem sc_Scanner_read_last_gap : FnScope n_Scanner_read_last_gap p_Scanner_read_last_gap (defScope s_Scanner_read_last_gap) := ⟨rfl, rfl, rfl, by decide +kernel, rfl, by decide +kernel, by decide +kernel⟩
abbrev n_Scanner_read_empty_line : List Str := ["self", "at", "end"]
abbrev p_Scanner_read_empty_line : List Str := ["self", "at"]
theorem sc_Scanner_read_empty_line : FnScope n_Scanner_read_empty_line p_Scanner_read_empty_line (defScope s_Scanner_read_empty_line) := ⟨rfl, rfl, rfl, by decide +kernel, rfl, by decide +kernel, by decide +kernel⟩
abbrev n_Scanner_compare_indentation : List Str := ["self", "gap", "end", "width", "length", "level"]
abbrev p_Scanner_compare_indentation : List Str := ["self", "gap", "end"]
theorem sc_Scanner_compare_indentation : FnScope n_Scanner_compare_indentation p_Scanner_compare_indentation (defScope s_Scanner_compare_indentation) := ⟨rfl, rfl, rfl, by decide +kernel, rfl, by decide +kernel, by decide +kernel⟩
abbrev n_Scanner_read_indentation : List Str := ["self", "end"]
abbrev p_Scanner_read_indentation : List Str := ["self"]
theorem sc_Scanner_read_indentation : FnScope n_Scanner_read_indentation p_Scanner_read_indentation (defScope s_Scanner_read_indentation) := ⟨rfl, rfl, rfl, by decide +kernel, rfl, by decide +kernel, by decide +kernel⟩
abbrev n_Scanner_read_string : List Str := ["self", "at", "quote", "end"]
abbrev p_Scanner_read_string : List Str := ["self", "at"]
theorem sc_Scanner_read_string : FnScope n_Scanner_read_string p_Scanner_read_string (defScope s_Scanner_read_string) := ⟨rfl, rfl, rfl, by decide +kernel, rfl, by decide +kernel, by decide +kernel⟩
abbrev n_Scanner_begin_string : List Str := ["self", "at", "quote", "frame"]
abbrev p_Scanner_begin_string : List Str := ["self", "at"]
theorem sc_Scanner_begin_string : FnScope n_Scanner_begin_string p_Scanner_begin_string (defScope s_Scanner_begin_string) := ⟨rfl, rfl, rfl, by decide +kernel, rfl, by decide +kernel, by decide +kernel⟩
abbrev n_Scanner_read_word : List Str := ["self", "end", "prefix"]
abbrev p_Scanner_read_word : List Str := ["self"]
theorem sc_Scanner_read_word : FnScope n_Scanner_read_word p_Scanner_read_word (defScope s_Scanner_read_word) := ⟨rfl, rfl, rfl, by decide +kernel, rfl, by decide +kernel, by decide +kernel⟩
abbrev n_Scanner_read_operator : List Str := ["self", "character", "is_own", "frame", "end"]
abbrev p_Scanner_read_operator : List Str := ["self", "character"]
theorem sc_Scanner_read_operator : FnScope n_Scanner_read_operator p_Scanner_read_operator (defScope s_Scanner_read_operator) := ⟨rfl, rfl, rfl, by decide +kernel, rfl, by decide +kernel, by decide +kernel⟩
abbrev n_Scanner_read_lexeme : List Str := ["self", "character", "rest", "end"]
abbrev p_Scanner_read_lexeme : List Str := ["self", "character"]
theorem sc_Scanner_read_lexeme : FnScope n_Scanner_read_lexeme p_Scanner_read_lexeme (defScope s_Scanner_read_lexeme) := ⟨rfl, rfl, rfl, by decide +kernel, rfl, by decide +kernel, by decide +kernel⟩
abbrev n_Scanner_add_part : List Str := ["self", "end"]
abbrev p_Scanner_add_part : List Str := ["self", "end"]
theorem sc_Scanner_add_part : FnScope n_Scanner_add_part p_Scanner_add_part (defScope s_Scanner_add_part) := ⟨rfl, rfl, rfl, by decide +kernel, rfl, by decide +kernel, by decide +kernel⟩
abbrev n_Scanner_part_end : List Str := ["self", "frame", "text", "quote", "at", "rest"]
abbrev p_Scanner_part_end : List Str := ["self", "frame"]
theorem sc_Scanner_part_end : FnScope n_Scanner_part_end p_Scanner_part_end (defScope s_Scanner_part_end) := ⟨rfl, rfl, rfl, by decide +kernel, rfl, by decide +kernel, by decide +kernel⟩
abbrev n_Scanner_read_part : List Str := ["self", "frame", "end", "begun", "other"]
abbrev p_Scanner_read_part : List Str := ["self", "frame"]
theorem sc_Scanner_read_part : FnScope n_Scanner_read_part p_Scanner_read_part (defScope s_Scanner_read_part) := ⟨rfl, rfl, rfl, by decide +kernel, rfl, by decide +kernel, by decide +kernel⟩
abbrev n_Scanner_read_step : List Str := ["self", "character"]
abbrev p_Scanner_read_step : List Str := ["self"]
theorem sc_Scanner_read_step : FnScope n_Scanner_read_step p_Scanner_read_step (defScope s_Scanner_read_step) := ⟨rfl, rfl, rfl, by decide +kernel, rfl, by decide +kernel, by decide +kernel⟩
abbrev n_Scanner_read_on : List Str := ["self", "count"]
abbrev p_Scanner_read_on : List Str := ["self"]
theorem sc_Scanner_read_on : FnScope n_Scanner_read_on p_Scanner_read_on (defScope s_Scanner_read_on) := ⟨rfl, rfl, rfl, by decide +kernel, rfl, by decide +kernel, by decide +kernel⟩
abbrev n_Scanner_feed : List Str := ["self", "piece"]
abbrev p_Scanner_feed : List Str := ["self", "piece"]
theorem sc_Scanner_feed : FnScope n_Scanner_feed p_Scanner_feed (defScope s_Scanner_feed) := ⟨rfl, rfl, rfl, by decide +kernel, rfl, by decide +kernel, by decide +kernel⟩
abbrev n_Scanner_close : List Str := ["self"]
abbrev p_Scanner_close : List Str := ["self"]
theorem sc_Scanner_close : FnScope n_Scanner_close p_Scanner_close (defScope s_Scanner_close) := ⟨rfl, rfl, rfl, by decide +kernel, rfl, by decide +kernel, by decide +kernel⟩
abbrev n_read : List Str := ["text", "scanner", "found"]
abbrev p_read : List Str := ["text"]
theorem sc_read : FnScope n_read p_read (defScope s_read) := ⟨rfl, rfl, rfl, by decide +kernel, rfl, by decide +kernel, by decide +kernel⟩
abbrev n_law_bag : List Str := ["_law_script", "_law_at", "_law_cell", "_law_digits"]
abbrev p_law_bag : List Str := ["_law_script", "_law_at"]
theorem sc_law_bag : FnScope n_law_bag p_law_bag (defScope s_law_bag) := ⟨rfl, rfl, rfl, by decide +kernel, rfl, by decide +kernel, by decide +kernel⟩
abbrev n_law_take : List Str := ["_law_bag_here", "_law_many", "_law_digit"]
abbrev p_law_take : List Str := ["_law_bag_here", "_law_many"]
theorem sc_law_take : FnScope n_law_take p_law_take (defScope s_law_take) := ⟨rfl, rfl, rfl, by decide +kernel, rfl, by decide +kernel, by decide +kernel⟩
abbrev n_law_pick : List Str := ["_law_bag_here", "_law_menu"]
abbrev p_law_pick : List Str := ["_law_bag_here", "_law_menu"]
theorem sc_law_pick : FnScope n_law_pick p_law_pick (defScope s_law_pick) := ⟨rfl, rfl, rfl, by decide +kernel, rfl, by decide +kernel, by decide +kernel⟩
abbrev n_law_plain : List Str := ["_law_bag_here", "_law_names", "_law_numbers", "_law_strings", "_law_signs"]
abbrev p_law_plain : List Str := ["_law_bag_here"]
theorem sc_law_plain : FnScope n_law_plain p_law_plain (defScope s_law_plain) := ⟨rfl, rfl, rfl, by decide +kernel, rfl, by decide +kernel, by decide +kernel⟩
abbrev n_law_atom : List Str := ["_law_bag_here", "_law_depth", "_law_way", "_law_pair"]
abbrev p_law_atom : List Str := ["_law_bag_here", "_law_depth"]
theorem sc_law_atom : FnScope n_law_atom p_law_atom (defScope s_law_atom) := ⟨rfl, rfl, rfl, by decide +kernel, rfl, by decide +kernel, by decide +kernel⟩
abbrev n_law_row : List Str := ["_law_bag_here", "_law_depth", "_law_is_inside", "_law_gaps", "_law_found", "_law_turn"]
abbrev p_law_row : List Str := ["_law_bag_here", "_law_depth", "_law_is_inside"]
theorem sc_law_row : FnScope n_law_row p_law_row (defScope s_law_row) := ⟨rfl, rfl, rfl, by decide +kernel, rfl, by decide +kernel, by decide +kernel⟩
abbrev n_law_formatted : List Str := ["_law_bag_here", "_law_depth", "_law_quote", "_law_found", "_law_tails", "_law_parts", "_law_turn", "_law_way"]
abbrev p_law_formatted : List Str := ["_law_bag_here", "_law_depth"]
theorem sc_law_formatted : FnScope n_law_formatted p_law_formatted (defScope s_law_formatted) := ⟨rfl, rfl, rfl, by decide +kernel, rfl, by decide +kernel, by decide +kernel⟩
abbrev n_law_source : List Str := ["_law_bag_here", "_law_most", "_law_found", "_law_levels", "_law_turn", "_law_way"]
abbrev p_law_source : List Str := ["_law_bag_here", "_law_most"]
theorem sc_law_source : FnScope n_law_source p_law_source (defScope s_law_source) := ⟨rfl, rfl, rfl, by decide +kernel, rfl, by decide +kernel, by decide +kernel⟩
abbrev n_law_spoilt : List Str := ["_law_bag_here", "_law_text", "_law_at", "_law_sign", "_law_way"]
abbrev p_law_spoilt : List Str := ["_law_bag_here", "_law_text"]
theorem sc_law_spoilt : FnScope n_law_spoilt p_law_spoilt (defScope s_law_spoilt) := ⟨rfl, rfl, rfl, by decide +kernel, rfl, by decide +kernel, by decide +kernel⟩
abbrev n_law_any_source : List Str := ["_law_bag_here", "_law_most", "_law_spoils", "_law_text", "_law_turn"]
abbrev p_law_any_source : List Str := ["_law_bag_here", "_law_most", "_law_spoils"]
theorem sc_law_any_source : FnScope n_law_any_source p_law_any_source (defScope s_law_any_source) := ⟨rfl, rfl, rfl, by decide +kernel, rfl, by decide +kernel, by decide +kernel⟩
abbrev n_law_without : List Str := ["_law_text", "_law_signs", "_law_sign"]
abbrev p_law_without : List Str := ["_law_text", "_law_signs"]
theorem sc_law_without : FnScope n_law_without p_law_without (defScope s_law_without) := ⟨rfl, rfl, rfl, by decide +kernel, rfl, by decide +kernel, by decide +kernel⟩
abbrev n_law_right : List Str := ["_law_kind", "_law_string", "_law_text", "_law_end", "_law_due"]
abbrev p_law_right : List Str := ["_law_kind", "_law_string"]
theorem sc_law_right : FnScope n_law_right p_law_right (defScope s_law_right) := ⟨rfl, rfl, rfl, by decide +kernel, rfl, by decide +kernel, by decide +kernel⟩
abbrev n_law_formatted_right : List Str := ["_law_inside", "_law_quote", "_law_text", "_law_at", "_law_due", "_law_end"]
abbrev p_law_formatted_right : List Str := ["_law_inside", "_law_quote"]
theorem sc_law_formatted_right : FnScope n_law_formatted_right p_law_formatted_right (defScope s_law_formatted_right) := ⟨rfl, rfl, rfl, by decide +kernel, rfl, by decide +kernel, by decide +kernel⟩
abbrev n_law_comment_right : List Str := ["_law_inside", "_law_end", "_law_due", "_law_alone"]
abbrev p_law_comment_right : List Str := ["_law_inside"]
theorem sc_law_comment_right : FnScope n_law_comment_right p_law_comment_right (defScope s_law_comment_right) := ⟨rfl, rfl, rfl, by decide +kernel, rfl, by decide +kernel, by decide +kernel⟩
abbrev n_law : List Str := ["_law_script", "_law_k", "_law_bag_here", "_law_text", "_law_plain_here", "_law_quote", "_law_prefix", "_law_line", "_law_doubled"]
abbrev p_law : List Str := ["_law_script"]
theorem sc_law : FnScope n_law p_law (defScope s_law) := ⟨rfl, rfl, rfl, by decide +kernel, rfl, by decide +kernel, by decide +kernel⟩
end
section
/-! Short words for the walk: defs and methods by name, a step at a time. -/

/-! ### a def, a method that keeps a promise -/
abbrev FnP (K : PySem.W.Frag) (x qual : Str) (st : Stmt) (f : Addr) (fd : FuncData) : Prop := FunD K x qual (defArgs st) (defBody st) (defScope st) [] [] f fd
structure Ok (P : Program) (w : World) (K : PySem.W.Frag) (mg : Str → Option Value) (base : Heap) (k : Nat) (x : Str) (ps : List Str) (sp : Sp) : Prop where
  ex : ∃ fd, FnOk P w K mg base CX0 k (He.ga K x) fd ps sp ∧ Binds K fd ps []
  g : mg x = some (.ref (He.ga K x))
  kp : PySem.W.keepIn K (.ref (He.ga K x)) = true
structure OkM (P : Program) (w : World) (K : PySem.W.Frag) (mg : Str → Option Value) (base : Heap) (k : Nat) (C m : Str) (ps : List Str) (sp : Sp) : Prop where
  ex : ∃ fd, FnOk P w K mg base CX0 k (He.ma K (He.ga K C) m) fd ps sp ∧ Binds K fd ps []
  me : Meth K (He.ga K C) m (He.ma K (He.ga K C) m)
  c : Cls K (He.ga K C)
section
variable {P : Program} {w : World} {K : PySem.W.Frag} {mg : Str → Option Value} {base : Heap} {k : Nat} {x C m : Str} {ps : List Str} {sp sp' : Sp}
theorem Ok.imp (O : Ok P w K mg base k x ps sp) (h : ∀ vs H Q E, sp' vs H Q E → sp vs H Q E) : Ok P w K mg base k x ps sp' := by
  obtain ⟨⟨fd, F, b⟩, g, kp⟩ := O
  exact ⟨⟨fd, F.imp h, b⟩, g, kp⟩
theorem Ok.up (O : Ok P w K mg base k x ps sp) {j : Nat} (h : k ≤ j) : Ok P w K mg base j x ps sp := by
  obtain ⟨⟨fd, F, b⟩, g, kp⟩ := O
  exact ⟨⟨fd, F.mono h, b⟩, g, kp⟩
/-- how a def's arguments bind -/
def BindsBy (x qual : Str) (st : Stmt) (ps : List Str) : Prop := ∀ (kV doc pm : Value) (an : Option Addr) (cdv ct : Value) (us : List Value), us.length = ps.length → bindArgs (PySem.W.fnOf x qual (defArgs st) (defBody st) (defScope st) .none kV doc pm an cdv ct) ⟨us, []⟩ = pure (ps.zip us)
theorem mkOk {st : Stmt} {N : List Str} (F : ∃ fd, FnP K x x st (He.ga K x) fd) (g : mg x = some (.ref (He.ga K x))) (S : FnScope N ps (defScope st)) (hb : BindsBy x x st ps) (len : ∀ vs H Q E, sp vs H Q E → vs.length = ps.length)
    (body : ∀ (f : Addr) (cdv : Value) (A : Around) (outer : List Env) (s : Shared) (H : Hp) (vs : List V) (Q : VK) (E : XK), Room k (A.deeper (envOfC x (defScope st) s.heap.objs.size f cdv)) → sp vs H Q E →
      ∃ t, PSs (cxOf CX0 P w K mg base N x (defScope st) f cdv A outer s H E).nox (defBody st) t ∧ t { nx := fun _ H' => Q .non H', rt := Q } (start N vs) H) : Ok P w K mg base (k + 1) x ps sp := by
  obtain ⟨fd, F⟩ := F
  refine ⟨⟨fd, F.ok S len (fun cdv A outer s H vs Q E hr h => ?_), F.bindsN hb⟩, g, F.kp⟩
  obtain ⟨t, h1, h2⟩ := body _ cdv A outer s H vs Q E hr h
  exact ⟨t, h1.nox, h2⟩
theorem mkOkM {st : Stmt} {N : List Str} {qual : Str} (F : ∃ fd, FnP K m qual st (He.ma K (He.ga K C) m) fd) (me : Meth K (He.ga K C) m (He.ma K (He.ga K C) m)) (c : Cls K (He.ga K C)) (S : FnScope N ps (defScope st)) (hb : BindsBy m qual st ps) (len : ∀ vs H Q E, sp vs H Q E → vs.length = ps.length)
    (body : ∀ (f : Addr) (cdv : Value) (A : Around) (outer : List Env) (s : Shared) (H : Hp) (vs : List V) (Q : VK) (E : XK), Room k (A.deeper (envOfC qual (defScope st) s.heap.objs.size f cdv)) → sp vs H Q E →
      ∃ t, PSs (cxOf CX0 P w K mg base N qual (defScope st) f cdv A outer s H E).nox (defBody st) t ∧ t { nx := fun _ H' => Q .non H', rt := Q } (start N vs) H) : OkM P w K mg base (k + 1) C m ps sp := by
  obtain ⟨fd, F⟩ := F
  refine ⟨⟨fd, F.ok S len (fun cdv A outer s H vs Q E hr h => ?_), F.bindsN hb⟩, me, c⟩
  obtain ⟨t, h1, h2⟩ := body _ cdv A outer s H vs Q E hr h
  exact ⟨t, h1.nox, h2⟩
end

/-! ### calls -/
/-- a method called by name, seen as it is evaluated -/
abbrev evM (o : Expr) (m : Str) (es : List Expr) (apos pos : Pos) (pl : Sem Bool) (env : Env) : Sem Value :=
  eval o env >>= fun ov => standAt apos.atName >>= fun _ => holding [ov] (getMethod ov m pl) >>= fun (f, first) => callWith pos f first (backTo pos (starEach es env)) (backToKw pos (keywordEach [] env))
section
variable {X : Cx} {k j : Nat} {x C m : Str} {ps : List Str} {sp : Sp} {p pos apos : Pos} {e o : Expr} {es : List Expr} {ta : TE} {t : TA}
theorem pc (O : Ok X.prog X.w X.K X.mg X.base k x ps sp) (hr : Room j X.A) (hg : Gl X x) (ha : PA X (e :: es) t) (hk : k ≤ j := by decide) (hdb : (x == ("__debug__" : Str)) = false := by decide)
    (he : starEach (e :: es) X.env = (false, eval e X.env) :: starEach es X.env := by rfl) (hpl : (backTo pos (starEach es X.env)).any (·.1) = false := by rfl) : PE X (.Call (.Name x p) (e :: es) [] pos) (tCall sp [] E0 t) := by
  obtain ⟨⟨fd, F, b⟩, g, kp⟩ := O
  exact pe_call F (hr.mono hk) hg g kp b .nil pass0 ha hdb he hpl
theorem pm {pl : Sem Bool} (O : OkM X.prog X.w X.K X.mg X.base k C m ps sp) (hr : Room j X.A) (he : PE X o ta) (ha : PA X (e :: es) t) (hk : k ≤ j := by decide)
    (hst : starEach (e :: es) X.env = (false, eval e X.env) :: starEach es X.env := by rfl) (hpl : (backTo pos (starEach es X.env)).any (·.1) = false := by rfl) (ht : eval (.Call (.Attribute o m apos) (e :: es) [] pos) X.env = evM o m (e :: es) apos pos pl X.env := by rfl) :
    PE X (.Call (.Attribute o m apos) (e :: es) [] pos) (tMeth (He.ga X.K C) m sp [] E0 ta t) := by
  obtain ⟨⟨fd, F, b⟩, me, c⟩ := O
  exact pe_meth he c me F (hr.mono hk) b .nil pass0 ha hst hpl ht
theorem pm0 {pl : Sem Bool} (O : OkM X.prog X.w X.K X.mg X.base k C m ps sp) (hr : Room j X.A) (he : PE X o ta) (hk : k ≤ j := by decide)
    (ht : eval (.Call (.Attribute o m apos) [] [] pos) X.env = evM o m [] apos pos pl X.env := by rfl) :
    PE X (.Call (.Attribute o m apos) [] [] pos) (tMeth (He.ga X.K C) m sp [] E0 ta tNil) := by
  obtain ⟨⟨fd, F, b⟩, me, c⟩ := O
  exact pe_meth0 he c me F (hr.mono hk) b .nil pass0 ht
theorem pmk (O : OkM X.prog X.w X.K X.mg X.base k C "__init__" ps sp) (M : Mk X.K (He.ga X.K C) (He.ma X.K (He.ga X.K C) "__init__")) (g : X.mg C = some (.ref (He.ga X.K C))) (hr : Room j X.A) (hg : Gl X C) (ha : PA X (e :: es) t) (hk : k + 1 ≤ j := by decide)
    (hdb : (C == ("__debug__" : Str)) = false := by decide) (he : starEach (e :: es) X.env = (false, eval e X.env) :: starEach es X.env := by rfl) (hpl : (backTo pos (starEach es X.env)).any (·.1) = false := by rfl) :
    PE X (.Call (.Name C p) (e :: es) [] pos) (tMake (He.ga X.K C) sp [] E0 t) := by
  obtain ⟨⟨fd, F, b⟩, _, _⟩ := O
  exact pe_make M F (hr.mono hk) hg g b .nil pass0 ha hdb he hpl
theorem pmk0 (O : OkM X.prog X.w X.K X.mg X.base k C "__init__" ps sp) (M : Mk X.K (He.ga X.K C) (He.ma X.K (He.ga X.K C) "__init__")) (g : X.mg C = some (.ref (He.ga X.K C))) (hr : Room j X.A) (hg : Gl X C) (hk : k + 1 ≤ j := by decide)
    (hdb : (C == ("__debug__" : Str)) = false := by decide) : PE X (.Call (.Name C p) [] [] pos) (tMake (He.ga X.K C) sp [] E0 tNil) := by
  obtain ⟨⟨fd, F, b⟩, _, _⟩ := O
  exact pe_make0 M F (hr.mono hk) hg g b .nil pass0 hdb
/-- constants of the module -/
theorem pgI {i : Int} (h : ∃ t, X.mg x = some (.int i t)) (hg : Gl X x) (hd : (x == ("__debug__" : Str)) = false := by decide) : PE X (.Name x pos) (tC (.int i)) := by
  obtain ⟨t, h⟩ := h
  exact pe_glob hg h ⟨t, rfl⟩ hd
theorem pgS {z : Str} (h : ∃ t, X.mg x = some (.str z t)) (hg : Gl X x) (hd : (x == ("__debug__" : Str)) = false := by decide) : PE X (.Name x pos) (tC (.str z)) := by
  obtain ⟨t, h⟩ := h
  exact pe_glob hg h ⟨t, rfl⟩ hd
theorem pgR {a : Addr} (h : X.mg x = some (.ref a)) (hg : Gl X x) (hd : (x == ("__debug__" : Str)) = false := by decide) : PE X (.Name x pos) (tC (.ref a)) := pe_glob hg h rfl hd
end

/-! ### operators by name -/
section
variable {X : Cx}
theorem op_addS : OpR X (binaryOp .Add) rAddS := op_add_str
/-- len of a text, of a list -/
def rLnS : List V → Hp → VK → Prop := fun xs H Q => ∃ z, xs = [.str z] ∧ z.length ≤ sizeLine ∧ Q (.int z.length) H
theorem cr_lnS : CallR X (.builtin "len") rLnS := call_len_str
def rLnL (K : PySem.W.Frag) : List V → Hp → VK → Prop := fun xs H Q => ∃ p ys, xs = [.ref p] ∧ SqL K H p ys ∧ Q (.int ys.length) H
theorem cr_lnL : CallR X (.builtin "len") (rLnL X.K) := by
  intro pins s σ H xs us
  intro Q I r h
  obtain ⟨p, ys, e, hq, q⟩ := h
  exact call_len_seq pins s σ H xs us Q I r ⟨p, ys, e, .inl hq, q⟩
/-- a text some times -/
def repS (z : Str) (n : Nat) : Str := ⟨(List.replicate n (tl z)).flatten.toArray⟩
theorem rep_fold (a : Array Nat) : ∀ (n : Nat) (acc : Array Nat), (List.replicate n a).foldl (· ++ ·) acc = (acc.toList ++ (List.replicate n a.toList).flatten).toArray
  | 0, acc => by simp
  | n + 1, acc => by
    rw [List.replicate_succ, List.foldl_cons, rep_fold a n, List.replicate_succ, List.flatten_cons]
    simp
theorem tl_repS (z : Str) (n : Nat) : tl (repS z n) = (List.replicate n (tl z)).flatten := rfl
def rMulS : R2 := fun x y H Q => ∃ (z : Str) (k : Nat), x = .str z ∧ y = .int (k : Int) ∧ k ≤ 1000 ∧ z.length ≤ 1000 ∧ Q (.str (repS z k)) H
theorem op_mulS : OpR X (binaryOp .Mult) rMulS := by
  intro pins s σ H x y v u
  intro Q I rx ry h
  obtain ⟨z, k, rfl, rfl, hk, hz, q⟩ := h
  obtain ⟨t, rfl⟩ := rx
  obtain ⟨t', rfl⟩ := ry
  have hsz : z.length * k ≤ 1000000 := Nat.le_trans (Nat.mul_le_mul hz hk) (by decide)
  refine P.mul_str ?_ ?_ ?_ ?_
  · rw [decide_eq_false (by omega), decide_eq_false (by omega)]
    rfl
  · intro h1 _ hgt
    have hk1 : (1 : Int) ≤ (k : Int) := by omega
    have h4 : ((z.length : Nat) : Int) * (k : Int) ≤ 1000000 := by
      have h5 : ((z.length * k : Nat) : Int) ≤ ((1000000 : Nat) : Int) := Int.ofNat_le.mpr hsz
      rw [Int.natCast_mul] at h5
      exact h5
    have h3 : ((z.length : Nat) : Int) ≤ (2 ^ 63 - 1) / (k : Int) := (Int.le_ediv_iff_mul_le (by omega)).mpr (by omega)
    omega
  · intro _ _
    have e : ((k : Int)).toNat = k := by omega
    rw [e]
    exact decide_eq_false (by
      have h5 : (sizeLine : Nat) = 16777216 := by rw [sizeLine_eq]
      omega)
  · by_cases h1 : (k : Int) < 1
    · rw [if_pos h1]
      have e : k = 0 := by omega
      subst e
      exact ⟨by decide, .str Str.empty, H, I.tok _, ⟨_, rfl⟩, q⟩
    · rw [if_neg h1]
      by_cases h2 : ((k : Int) == 1 || z.length == 0) = true
      · rw [if_pos h2]
        have e : repS z k = z := by
          rcases Bool.or_eq_true_iff.mp h2 with h3 | h3
          · have e1 : k = 1 := by
              have := beq_iff_eq.mp h3
              omega
            subst e1
            exact ext_tl (by rw [tl_repS]; simp)
          · have e1 : tl z = [] := (len0_tl z).mp (beq_iff_eq.mp h3)
            exact ext_tl (by rw [tl_repS, e1]; simp)
        rw [e] at q
        exact ⟨V.str z, H, I, ⟨t, rfl⟩, q⟩
      · rw [if_neg h2]
        have e : ((k : Int)).toNat = k := by omega
        have e2 : (⟨(List.replicate (k : Int).toNat z.cps).foldl (· ++ ·) #[]⟩ : Str) = repS z k := by
          rw [e, rep_fold]
          rfl
        rw [e2]
        have hl : (repS z k).length ≤ sizeLine := by
          rw [len_tl, tl_repS, List.length_flatten, List.map_replicate, List.sum_replicate_nat, ← len_tl, Nat.mul_comm]
          have h5 : (sizeLine : Nat) = 16777216 := by rw [sizeLine_eq]
          omega
        exact ⟨hl, V.str _, H, I.tok _, ⟨_, rfl⟩, q⟩
/-- xs != [], whatever xs holds -/
def rNeNil (K : PySem.W.Frag) : R2 := fun x y H Q => ∃ a b xs, x = .ref a ∧ y = .ref b ∧ SqL K H a xs ∧ SqL K H b [] ∧ Q (.bl (!xs.isEmpty)) H
def rEqNil (K : PySem.W.Frag) : R2 := fun x y H Q => ∃ a b xs, x = .ref a ∧ y = .ref b ∧ SqL K H a xs ∧ SqL K H b [] ∧ Q (.bl xs.isEmpty) H
theorem shaped_nil : SeqAt.shaped (.list []) = true := by decide +kernel
theorem op_neNil (hu : X.A.units + 64 < cLine) : OpR X (compareOp .NotEq) (rNeNil X.K) := by
  intro pins s σ H x y v u
  intro Q I rx ry h
  obtain ⟨a, b, xs, rfl, rfl, ha, hb, q⟩ := h
  cases xs with
  | nil => exact op_neD hu pins s σ H _ _ v u Q I rx ry ⟨.list [], .list [], .lst ha .nil, .lst hb .nil, shaped_nil, shaped_nil, q⟩
  | cons z zs =>
    cases rx
    cases ry
    obtain ⟨its, r1, p1, _⟩ := I.list ha
    obtain ⟨its2, r2, p2, _⟩ := I.list hb
    have l1 := r1.length
    have l2 := r2.length
    refine SeqAt.RcNeAt.lists_lengths p1.isList p2.isList ?_ (by omega) X.prog X.w X.xe _ ⟨.bl true, H, I, rfl, q⟩
    rw [List.size_toArray, List.size_toArray, ← l1, ← l2]
    exact rfl
theorem op_eqNil (hu : X.A.units + 64 < cLine) : OpR X (compareOp .Eq) (rEqNil X.K) := by
  intro pins s σ H x y v u
  intro Q I rx ry h
  obtain ⟨a, b, xs, rfl, rfl, ha, hb, q⟩ := h
  cases xs with
  | nil => exact op_eqD hu pins s σ H _ _ v u Q I rx ry ⟨.list [], .list [], .lst ha .nil, .lst hb .nil, shaped_nil, shaped_nil, q⟩
  | cons z zs =>
    cases rx
    cases ry
    obtain ⟨its, r1, p1, _⟩ := I.list ha
    obtain ⟨its2, r2, p2, _⟩ := I.list hb
    have l1 := r1.length
    have l2 := r2.length
    refine SeqAt.eq_list_lengthsAt p1.isList p2.isList ?_ (by omega) ⟨.bl false, H, I, rfl, q⟩
    rw [List.size_toArray, List.size_toArray, ← l1, ← l2]
    exact rfl
/-- list(text) -/
def sgs (z : Str) : List V := (tl z).map fun c => V.str ⟨#[c]⟩
theorem vals_get : ∀ {xs : List V} {us : List Value}, xs.length = us.length → (∀ (i : Nat) (x : V) (u : Value), xs[i]? = some x → us[i]? = some u → RelV x u) → Vals xs us
  | [], [], _, _ => .nil
  | [], _ :: _, e, _ => by cases e
  | _ :: _, [], e, _ => by cases e
  | x :: xs, u :: us, h, f => .cons (f 0 x u rfl rfl) (vals_get (Nat.succ.inj h) fun i y w h1 h2 => f (i + 1) y w (by simpa using h1) (by simpa using h2))
def rListS : List V → Hp → VK → Prop := fun xs H Q => ∃ z, xs = [.str z] ∧ z.length ≤ sizeLine ∧ ∀ l, H l = none → Q (.ref l) (upd H l (.lst (sgs z)))
theorem cr_listS (hc : X.calm = true) : CallR X (.type "list") rListS := by
  intro pins s σ H xs us
  intro Q I r h
  obtain ⟨z, rfl, hz, q⟩ := h
  obtain ⟨_, rfl, t, rfl⟩ := vals1 r
  refine call_list_str (I.ok.hd hc) z t (fun h' tk acc c kp e hI => ?_) hz
  have hv : Vals (sgs z) acc.toList := vals_get (by
    have := hI.1
    unfold sgs
    rw [List.length_map]
    rw [Array.length_toList]
    simpa [tl] using this.symm) fun i x u h1 h2 => by
      obtain ⟨c, w, hc, rfl⟩ := hI.2 i u (by simpa using h2)
      unfold sgs at h1
      rw [List.getElem?_map] at h1
      have : (tl z)[i]? = some c := by simpa [tl] using hc
      rw [this] at h1
      have e1 : V.str ⟨#[c]⟩ = x := Option.some.inj h1
      subst e1
      exact ⟨w, rfl⟩
  exact ⟨.ref s.heap.objs.size, _, I.laid (t' := tk) kp (Nat.le_refl _) (show ObjOk X.prog X.w _ h' _ (.lst (sgs z)) from ⟨by unfold sgs; rw [List.length_map, ← len_tl]; exact hz, acc.toList, c, hv, e⟩), rfl, q _ (I.hok.fresh (Nat.le_refl _))⟩
end
end
section
def dfs : List He.DefD := [
  ⟨("is_word_character", none), "is_word_character", "is_word_character", defArgs s_is_word_character, defBody s_is_word_character, defScope s_is_word_character, [], []⟩,
  ⟨("name_end", none), "name_end", "name_end", defArgs s_name_end, defBody s_name_end, defScope s_name_end, [], []⟩,
  ⟨("operator_end", none), "operator_end", "operator_end", defArgs s_operator_end, defBody s_operator_end, defScope s_operator_end, [], []⟩,
  ⟨("quote_at", none), "quote_at", "quote_at", defArgs s_quote_at, defBody s_quote_at, defScope s_quote_at, [], []⟩,
  ⟨("string_end", none), "string_end", "string_end", defArgs s_string_end, defBody s_string_end, defScope s_string_end, [], []⟩,
  ⟨("Frame", some "__init__"), "__init__", "Frame.__init__", defArgs s_Frame_init, defBody s_Frame_init, defScope s_Frame_init, [], []⟩,
  ⟨("width_of", none), "width_of", "width_of", defArgs s_width_of, defBody s_width_of, defScope s_width_of, [], []⟩,
  ⟨("Scanner", some "__init__"), "__init__", "Scanner.__init__", defArgs s_Scanner_init, defBody s_Scanner_init, defScope s_Scanner_init, [], []⟩,
  ⟨("Scanner", some "add"), "add", "Scanner.add", defArgs s_Scanner_add, defBody s_Scanner_add, defScope s_Scanner_add, [], []⟩,
  ⟨("Scanner", some "add_lexeme"), "add_lexeme", "Scanner.add_lexeme", defArgs s_Scanner_add_lexeme, defBody s_Scanner_add_lexeme, defScope s_Scanner_add_lexeme, [], []⟩,
  ⟨("Scanner", some "finish"), "finish", "Scanner.finish", defArgs s_Scanner_finish, defBody s_Scanner_finish, defScope s_Scanner_finish, [], []⟩,
  ⟨("Scanner", some "comment_end"), "comment_end", "Scanner.comment_end", defArgs s_Scanner_comment_end, defBody s_Scanner_comment_end, defScope s_Scanner_comment_end, [], []⟩,
  ⟨("Scanner", some "read_comment"), "read_comment", "Scanner.read_comment", defArgs s_Scanner_read_comment, defBody s_Scanner_read_comment, defScope s_Scanner_read_comment, [], []⟩,
  ⟨("Scanner", some "read_line_feed"), "read_line_feed", "Scanner.read_line_feed", defArgs s_Scanner_read_line_feed, defBody s_Scanner_read_line_feed, defScope s_Scanner_read_line_feed, [], []⟩,
  ⟨("Scanner", some "read_last_gap"), "read_last_gap", "Scanner.read_last_gap", defArgs s_Scanner_read_last_gap, defBody s_Scanner_read_last_gap, defScope s_Scanner_read_last_gap, [], []⟩,
  ⟨("Scanner", some "read_empty_line"), "read_empty_line", "Scanner.read_empty_line", defArgs s_Scanner_read_empty_line, defBody s_Scanner_read_empty_line, defScope s_Scanner_read_empty_line, [], []⟩,
  ⟨("Scanner", some "compare_indentation"), "compare_indentation", "Scanner.compare_indentation", defArgs s_Scanner_compare_indentation, defBody s_Scanner_compare_indentation, defScope s_Scanner_compare_indentation, [], []⟩,
  ⟨("Scanner", some "read_indentation"), "read_indentation", "Scanner.read_indentation", defArgs s_Scanner_read_indentation, defBody s_Scanner_read_indentation, defScope s_Scanner_read_indentation, [], []⟩,
  ⟨("Scanner", some "read_string"), "read_string", "Scanner.read_string", defArgs s_Scanner_read_string, defBody s_Scanner_read_string, defScope s_Scanner_read_string, [], []⟩,
  ⟨("Scanner", some "begin_string"), "begin_string", "Scanner.begin_string", defArgs s_Scanner_begin_string, defBody s_Scanner_begin_string, defScope s_Scanner_begin_string, [], []⟩,
  ⟨("Scanner", some "read_word"), "read_word", "Scanner.read_word", defArgs s_Scanner_read_word, defBody s_Scanner_read_word, defScope s_Scanner_read_word, [], []⟩,
  ⟨("Scanner", some "read_operator"), "read_operator", "Scanner.read_operator", defArgs s_Scanner_read_operator, defBody s_Scanner_read_operator, defScope s_Scanner_read_operator, [], []⟩,
  ⟨("Scanner", some "read_lexeme"), "read_lexeme", "Scanner.read_lexeme", defArgs s_Scanner_read_lexeme, defBody s_Scanner_read_lexeme, defScope s_Scanner_read_lexeme, [], []⟩,
  ⟨("Scanner", some "add_part"), "add_part", "Scanner.add_part", defArgs s_Scanner_add_part, defBody s_Scanner_add_part, defScope s_Scanner_add_part, [], []⟩,
  ⟨("Scanner", some "part_end"), "part_end", "Scanner.part_end", defArgs s_Scanner_part_end, defBody s_Scanner_part_end, defScope s_Scanner_part_end, [], []⟩,
  ⟨("Scanner", some "read_part"), "read_part", "Scanner.read_part", defArgs s_Scanner_read_part, defBody s_Scanner_read_part, defScope s_Scanner_read_part, [], []⟩,
  ⟨("Scanner", some "read_step"), "read_step", "Scanner.read_step", defArgs s_Scanner_read_step, defBody s_Scanner_read_step, defScope s_Scanner_read_step, [], []⟩,
  ⟨("Scanner", some "read_on"), "read_on", "Scanner.read_on", defArgs s_Scanner_read_on, defBody s_Scanner_read_on, defScope s_Scanner_read_on, [], []⟩,
  ⟨("Scanner", some "feed"), "feed", "Scanner.feed", defArgs s_Scanner_feed, defBody s_Scanner_feed, defScope s_Scanner_feed, [], []⟩,
  ⟨("Scanner", some "close"), "close", "Scanner.close", defArgs s_Scanner_close, defBody s_Scanner_close, defScope s_Scanner_close, [], []⟩,
  ⟨("read", none), "read", "read", defArgs s_read, defBody s_read, defScope s_read, [], []⟩,
  ⟨("_law_bag", none), "_law_bag", "_law_bag", defArgs s_law_bag, defBody s_law_bag, defScope s_law_bag, [], []⟩,
  ⟨("_law_take", none), "_law_take", "_law_take", defArgs s_law_take, defBody s_law_take, defScope s_law_take, [], []⟩,
  ⟨("_law_pick", none), "_law_pick", "_law_pick", defArgs s_law_pick, defBody s_law_pick, defScope s_law_pick, [], []⟩,
  ⟨("_law_plain", none), "_law_plain", "_law_plain", defArgs s_law_plain, defBody s_law_plain, defScope s_law_plain, [], []⟩,
  ⟨("_law_atom", none), "_law_atom", "_law_atom", defArgs s_law_atom, defBody s_law_atom, defScope s_law_atom, [], []⟩,
  ⟨("_law_row", none), "_law_row", "_law_row", defArgs s_law_row, defBody s_law_row, defScope s_law_row, [], []⟩,
  ⟨("_law_formatted", none), "_law_formatted", "_law_formatted", defArgs s_law_formatted, defBody s_law_formatted, defScope s_law_formatted, [], []⟩,
  ⟨("_law_source", none), "_law_source", "_law_source", defArgs s_law_source, defBody s_law_source, defScope s_law_source, [], []⟩,
  ⟨("_law_spoilt", none), "_law_spoilt", "_law_spoilt", defArgs s_law_spoilt, defBody s_law_spoilt, defScope s_law_spoilt, [], []⟩,
  ⟨("_law_any_source", none), "_law_any_source", "_law_any_source", defArgs s_law_any_source, defBody s_law_any_source, defScope s_law_any_source, [], []⟩,
  ⟨("_law_without", none), "_law_without", "_law_without", defArgs s_law_without, defBody s_law_without, defScope s_law_without, [], []⟩,
  ⟨("_law_right", none), "_law_right", "_law_right", defArgs s_law_right, defBody s_law_right, defScope s_law_right, [], []⟩,
  ⟨("_law_formatted_right", none), "_law_formatted_right", "_law_formatted_right", defArgs s_law_formatted_right, defBody s_law_formatted_right, defScope s_law_formatted_right, [], []⟩,
  ⟨("_law_comment_right", none), "_law_comment_right", "_law_comment_right", defArgs s_law_comment_right, defBody s_law_comment_right, defScope s_law_comment_right, [], []⟩,
  ⟨("law", none), "law", "law", defArgs s_law, defBody s_law, defScope s_law, [], []⟩]
def fa0 : List He.Fa := [.glo "is_word_character", .glo "name_end", .glo "operator_end", .glo "quote_at", .glo "string_end", .glo "Frame", .glo "width_of", .glo "Scanner", .glo "read", .glo "_law_bag", .glo "_law_take", .glo "_law_pick", .glo "_law_plain", .glo "_law_atom", .glo "_law_row", .glo "_law_formatted", .glo "_law_source", .glo "_law_spoilt", .glo "_law_any_source", .glo "_law_without", .glo "_law_right", .glo "_law_formatted_right", .glo "_law_comment_right", .glo "law", .glo "PLAIN_PREFIXES", .glo "FORMATTED_PREFIXES", .glo "OPERATORS", .free "len", .free "any", .free "range"]
def fa1 : List He.Fa := [.free "max", .free "min", .free "abs", .free "int", .free "list", .int "MORE" (-1), .int "WRONG" (-2), .int "MOST_LEVELS" (12), .int "MOST_STRINGS" (4), .int "TAB" (8), .str "LETTERS" "abcdefghijklmnopqrstuvwxyzABCDEFGHIJKLMNOPQRSTUVWXYZ_", .str "DIGITS" "0123456789", .str "GAPS" " \t", .str "QUOTES" "'\"", .cls "Scanner", .cls "Frame", .mkr "Scanner", .mkr "Frame", .noat "Scanner" "text", .noat "Scanner" "at", .noat "Scanner" "levels", .noat "Scanner" "frames", .noat "Scanner" "found", .noat "Scanner" "failure", .noat "Scanner" "is_fresh", .noat "Scanner" "is_begun", .noat "Scanner" "is_final", .noat "Scanner" "is_over", .noat "Scanner" "join", .noat "Frame" "mark"]
def fa2 : List He.Fa := [.noat "Frame" "at", .noat "Frame" "quote", .meth "Scanner" "add", .meth "Scanner" "add_lexeme", .meth "Scanner" "finish", .meth "Scanner" "comment_end", .meth "Scanner" "read_comment", .meth "Scanner" "read_line_feed", .meth "Scanner" "read_last_gap", .meth "Scanner" "read_empty_line", .meth "Scanner" "compare_indentation", .meth "Scanner" "read_indentation", .meth "Scanner" "read_string", .meth "Scanner" "begin_string", .meth "Scanner" "read_word", .meth "Scanner" "read_operator", .meth "Scanner" "read_lexeme", .meth "Scanner" "add_part", .meth "Scanner" "part_end", .meth "Scanner" "read_part", .meth "Scanner" "read_step", .meth "Scanner" "read_on", .meth "Scanner" "feed", .meth "Scanner" "close"]
def fas : List He.Fa := fa0 ++ (fa1 ++ (fa2))
def l_PLAIN_PREFIXES : List Str := ["", "r", "u", "b", "br", "rb"]
def l_FORMATTED_PREFIXES : List Str := ["f", "fr", "rf"]
def l_OPERATORS : List Str := ((["**=", "//=", ">>=", "<<=", "...", "!=", "->", ":=", "**", "//", ">>", "<<", "<=", ">=", "==", "+=", "-=", "*=", "/=", "&="] : List Str) ++ (((["|=", "^=", "@=", "+", "-", "*", "/", "@", "&", "|", "^", "~", "<", ">", "(", ")", "[", "]", "{", "}"] : List Str) ++ ([",", ":", ".", ";", "="] : List Str)) : List Str))
def exB (K : PySem.W.Frag) : Bool := He.tupB K "PLAIN_PREFIXES" (l_PLAIN_PREFIXES.map He.Dv.str) && (He.tupB K "FORMATTED_PREFIXES" (l_FORMATTED_PREFIXES.map He.Dv.str) && (He.tupB K "OPERATORS" (l_OPERATORS.map He.Dv.str)))
def lo0 : List PySem.Str := ((["__name__", "LETTERS", "DIGITS", "GAPS", "QUOTES", "PLAIN_PREFIXES", "FORMATTED_PREFIXES", "OPERATORS", "STEPS", "ENDS", "MORE", "WRONG", "is_word_character", "name_end", "next_state", "number_end", "operator_end", "quote_at", "string_end", "CLOSERS"] : List Str) ++ (["MOST_LEVELS", "MOST_BRACKETS", "MOST_STRINGS", "TAB", "Frame", "width_of", "Scanner", "read", "_law_bag", "_law_take"] : List Str))
def lo1 : List PySem.Str := ["_law_pick", "_law_plain", "_law_atom", "_law_row", "_law_formatted", "_law_source", "_law_spoilt", "_law_any_source", "_law_without", "_law_right", "_law_formatted_right", "_law_comment_right"]
def loose : List PySem.Str := lo0 ++ (lo1)
/-- what stands behind the top -/
structure Top (K : PySem.W.Frag) (mg : Str → Option Value) : Prop where
  says : He.SaysD fas dfs K
  ex : exB K = true
  at_ : ∃ h : Heap, K.In h ∧ h.Ns mainGlobals mg
section
variable {K : PySem.W.Frag} {mg : Str → Option Value}
theorem Top.g_is_word_character (T : Top K mg) : mg "is_word_character" = some (.ref (He.ga K "is_word_character")) := by
  obtain ⟨h, X, G⟩ := T.at_
  exact He.glo_ok X G (T.says.fact 0 (f := .glo "is_word_character") rfl)
theorem Top.g_name_end (T : Top K mg) : mg "name_end" = some (.ref (He.ga K "name_end")) := by
  obtain ⟨h, X, G⟩ := T.at_
  exact He.glo_ok X G (T.says.fact 1 (f := .glo "name_end") rfl)
theorem Top.g_operator_end (T : Top K mg) : mg "operator_end" = some (.ref (He.ga K "operator_end")) := by
  obtain ⟨h, X, G⟩ := T.at_
  exact He.glo_ok X G (T.says.fact 2 (f := .glo "operator_end") rfl)
theorem Top.g_quote_at (T : Top K mg) : mg "quote_at" = some (.ref (He.ga K "quote_at")) := by
  obtain ⟨h, X, G⟩ := T.at_
  exact He.glo_ok X G (T.says.fact 3 (f := .glo "quote_at") rfl)
theorem Top.g_string_end (T : Top K mg) : mg "string_end" = some (.ref (He.ga K "string_end")) := by
  obtain ⟨h, X, G⟩ := T.at_
  exact He.glo_ok X G (T.says.fact 4 (f := .glo "string_end") rfl)
theorem Top.g_Frame (T : Top K mg) : mg "Frame" = some (.ref (He.ga K "Frame")) := by
  obtain ⟨h, X, G⟩ := T.at_
  exact He.glo_ok X G (T.says.fact 5 (f := .glo "Frame") rfl)
theorem Top.g_width_of (T : Top K mg) : mg "width_of" = some (.ref (He.ga K "width_of")) := by
  obtain ⟨h, X, G⟩ := T.at_
  exact He.glo_ok X G (T.says.fact 6 (f := .glo "width_of") rfl)
theorem Top.g_Scanner (T : Top K mg) : mg "Scanner" = some (.ref (He.ga K "Scanner")) := by
  obtain ⟨h, X, G⟩ := T.at_
  exact He.glo_ok X G (T.says.fact 7 (f := .glo "Scanner") rfl)
theorem Top.g_read (T : Top K mg) : mg "read" = some (.ref (He.ga K "read")) := by
  obtain ⟨h, X, G⟩ := T.at_
  exact He.glo_ok X G (T.says.fact 8 (f := .glo "read") rfl)
theorem Top.g_law_bag (T : Top K mg) : mg "_law_bag" = some (.ref (He.ga K "_law_bag")) := by
  obtain ⟨h, X, G⟩ := T.at_
  exact He.glo_ok X G (T.says.fact 9 (f := .glo "_law_bag") rfl)
theorem Top.g_law_take (T : Top K mg) : mg "_law_take" = some (.ref (He.ga K "_law_take")) := by
  obtain ⟨h, X, G⟩ := T.at_
  exact He.glo_ok X G (T.says.fact 10 (f := .glo "_law_take") rfl)
theorem Top.g_law_pick (T : Top K mg) : mg "_law_pick" = some (.ref (He.ga K "_law_pick")) := by
  obtain ⟨h, X, G⟩ := T.at_
  exact He.glo_ok X G (T.says.fact 11 (f := .glo "_law_pick") rfl)
theorem Top.g_law_plain (T : Top K mg) : mg "_law_plain" = some (.ref (He.ga K "_law_plain")) := by
  obtain ⟨h, X, G⟩ := T.at_
  exact He.glo_ok X G (T.says.fact 12 (f := .glo "_law_plain") rfl)
theorem Top.g_law_atom (T : Top K mg) : mg "_law_atom" = some (.ref (He.ga K "_law_atom")) := by
  obtain ⟨h, X, G⟩ := T.at_
  exact He.glo_ok X G (T.says.fact 13 (f := .glo "_law_atom") rfl)
theorem Top.g_law_row (T : Top K mg) : mg "_law_row" = some (.ref (He.ga K "_law_row")) := by
  obtain ⟨h, X, G⟩ := T.at_
  exact He.glo_ok X G (T.says.fact 14 (f := .glo "_law_row") rfl)
theorem Top.g_law_formatted (T : Top K mg) : mg "_law_formatted" = some (.ref (He.ga K "_law_formatted")) := by
  obtain ⟨h, X, G⟩ := T.at_
  exact He.glo_ok X G (T.says.fact 15 (f := .glo "_law_formatted") rfl)
theorem Top.g_law_source (T : Top K mg) : mg "_law_source" = some (.ref (He.ga K "_law_source")) := by
  obtain ⟨h, X, G⟩ := T.at_
  exact He.glo_ok X G (T.says.fact 16 (f := .glo "_law_source") rfl)
theorem Top.g_law_spoilt (T : Top K mg) : mg "_law_spoilt" = some (.ref (He.ga K "_law_spoilt")) := by
  obtain ⟨h, X, G⟩ := T.at_
  exact He.glo_ok X G (T.says.fact 17 (f := .glo "_law_spoilt") rfl)
theorem Top.g_law_any_source (T : Top K mg) : mg "_law_any_source" = some (.ref (He.ga K "_law_any_source")) := by
  obtain ⟨h, X, G⟩ := T.at_
  exact He.glo_ok X G (T.says.fact 18 (f := .glo "_law_any_source") rfl)
theorem Top.g_law_without (T : Top K mg) : mg "_law_without" = some (.ref (He.ga K "_law_without")) := by
  obtain ⟨h, X, G⟩ := T.at_
  exact He.glo_ok X G (T.says.fact 19 (f := .glo "_law_without") rfl)
theorem Top.g_law_right (T : Top K mg) : mg "_law_right" = some (.ref (He.ga K "_law_right")) := by
  obtain ⟨h, X, G⟩ := T.at_
  exact He.glo_ok X G (T.says.fact 20 (f := .glo "_law_right") rfl)
theorem Top.g_law_formatted_right (T : Top K mg) : mg "_law_formatted_right" = some (.ref (He.ga K "_law_formatted_right")) := by
  obtain ⟨h, X, G⟩ := T.at_
  exact He.glo_ok X G (T.says.fact 21 (f := .glo "_law_formatted_right") rfl)
theorem Top.g_law_comment_right (T : Top K mg) : mg "_law_comment_right" = some (.ref (He.ga K "_law_comment_right")) := by
  obtain ⟨h, X, G⟩ := T.at_
  exact He.glo_ok X G (T.says.fact 22 (f := .glo "_law_comment_right") rfl)
theorem Top.g_law (T : Top K mg) : mg "law" = some (.ref (He.ga K "law")) := by
  obtain ⟨h, X, G⟩ := T.at_
  exact He.glo_ok X G (T.says.fact 23 (f := .glo "law") rfl)
theorem Top.g_PLAIN_PREFIXES (T : Top K mg) : mg "PLAIN_PREFIXES" = some (.ref (He.ga K "PLAIN_PREFIXES")) := by
  obtain ⟨h, X, G⟩ := T.at_
  exact He.glo_ok X G (T.says.fact 24 (f := .glo "PLAIN_PREFIXES") rfl)
theorem Top.g_FORMATTED_PREFIXES (T : Top K mg) : mg "FORMATTED_PREFIXES" = some (.ref (He.ga K "FORMATTED_PREFIXES")) := by
  obtain ⟨h, X, G⟩ := T.at_
  exact He.glo_ok X G (T.says.fact 25 (f := .glo "FORMATTED_PREFIXES") rfl)
theorem Top.g_OPERATORS (T : Top K mg) : mg "OPERATORS" = some (.ref (He.ga K "OPERATORS")) := by
  obtain ⟨h, X, G⟩ := T.at_
  exact He.glo_ok X G (T.says.fact 26 (f := .glo "OPERATORS") rfl)
theorem Top.f_len (T : Top K mg) : mg "len" = none := by
  obtain ⟨h, X, G⟩ := T.at_
  exact He.free_ok X G (T.says.fact 27 (f := .free "len") rfl)
theorem Top.f_any (T : Top K mg) : mg "any" = none := by
  obtain ⟨h, X, G⟩ := T.at_
  exact He.free_ok X G (T.says.fact 28 (f := .free "any") rfl)
theorem Top.f_range (T : Top K mg) : mg "range" = none := by
  obtain ⟨h, X, G⟩ := T.at_
  exact He.free_ok X G (T.says.fact 29 (f := .free "range") rfl)
theorem Top.f_max (T : Top K mg) : mg "max" = none := by
  obtain ⟨h, X, G⟩ := T.at_
  exact He.free_ok X G (T.says.fact 30 (f := .free "max") rfl)
theorem Top.f_min (T : Top K mg) : mg "min" = none := by
  obtain ⟨h, X, G⟩ := T.at_
  exact He.free_ok X G (T.says.fact 31 (f := .free "min") rfl)
theorem Top.f_abs (T : Top K mg) : mg "abs" = none := by
  obtain ⟨h, X, G⟩ := T.at_
  exact He.free_ok X G (T.says.fact 32 (f := .free "abs") rfl)
theorem Top.f_int (T : Top K mg) : mg "int" = none := by
  obtain ⟨h, X, G⟩ := T.at_
  exact He.free_ok X G (T.says.fact 33 (f := .free "int") rfl)
theorem Top.f_list (T : Top K mg) : mg "list" = none := by
  obtain ⟨h, X, G⟩ := T.at_
  exact He.free_ok X G (T.says.fact 34 (f := .free "list") rfl)
theorem Top.i_MORE (T : Top K mg) : ∃ t, mg "MORE" = some (.int (-1) t) := by
  obtain ⟨h, X, G⟩ := T.at_
  exact He.int_ok X G (T.says.fact 35 (f := .int "MORE" (-1)) rfl)
theorem Top.i_WRONG (T : Top K mg) : ∃ t, mg "WRONG" = some (.int (-2) t) := by
  obtain ⟨h, X, G⟩ := T.at_
  exact He.int_ok X G (T.says.fact 36 (f := .int "WRONG" (-2)) rfl)
theorem Top.i_MOST_LEVELS (T : Top K mg) : ∃ t, mg "MOST_LEVELS" = some (.int (12) t) := by
  obtain ⟨h, X, G⟩ := T.at_
  exact He.int_ok X G (T.says.fact 37 (f := .int "MOST_LEVELS" (12)) rfl)
theorem Top.i_MOST_STRINGS (T : Top K mg) : ∃ t, mg "MOST_STRINGS" = some (.int (4) t) := by
  obtain ⟨h, X, G⟩ := T.at_
  exact He.int_ok X G (T.says.fact 38 (f := .int "MOST_STRINGS" (4)) rfl)
theorem Top.i_TAB (T : Top K mg) : ∃ t, mg "TAB" = some (.int (8) t) := by
  obtain ⟨h, X, G⟩ := T.at_
  exact He.int_ok X G (T.says.fact 39 (f := .int "TAB" (8)) rfl)
theorem Top.s_LETTERS (T : Top K mg) : ∃ t, mg "LETTERS" = some (.str "abcdefghijklmnopqrstuvwxyzABCDEFGHIJKLMNOPQRSTUVWXYZ_" t) := by
  obtain ⟨h, X, G⟩ := T.at_
  exact He.str_ok X G (T.says.fact 40 (f := .str "LETTERS" "abcdefghijklmnopqrstuvwxyzABCDEFGHIJKLMNOPQRSTUVWXYZ_") rfl)
theorem Top.s_DIGITS (T : Top K mg) : ∃ t, mg "DIGITS" = some (.str "0123456789" t) := by
  obtain ⟨h, X, G⟩ := T.at_
  exact He.str_ok X G (T.says.fact 41 (f := .str "DIGITS" "0123456789") rfl)
theorem Top.s_GAPS (T : Top K mg) : ∃ t, mg "GAPS" = some (.str " \t" t) := by
  obtain ⟨h, X, G⟩ := T.at_
  exact He.str_ok X G (T.says.fact 42 (f := .str "GAPS" " \t") rfl)
theorem Top.s_QUOTES (T : Top K mg) : ∃ t, mg "QUOTES" = some (.str "'\"" t) := by
  obtain ⟨h, X, G⟩ := T.at_
  exact He.str_ok X G (T.says.fact 43 (f := .str "QUOTES" "'\"") rfl)
theorem Top.c_Scanner (T : Top K mg) : Cls K (He.ga K "Scanner") := He.cls_ok (T.says.fact 44 (f := .cls "Scanner") rfl)
theorem Top.c_Frame (T : Top K mg) : Cls K (He.ga K "Frame") := He.cls_ok (T.says.fact 45 (f := .cls "Frame") rfl)
theorem Top.k_Scanner (T : Top K mg) : Mk K (He.ga K "Scanner") (He.ma K (He.ga K "Scanner") "__init__") := He.mkr_ok (T.says.fact 46 (f := .mkr "Scanner") rfl)
theorem Top.k_Frame (T : Top K mg) : Mk K (He.ga K "Frame") (He.ma K (He.ga K "Frame") "__init__") := He.mkr_ok (T.says.fact 47 (f := .mkr "Frame") rfl)
theorem Top.n_Scanner_text (T : Top K mg) : NoAttr K (He.ga K "Scanner") "text" := He.noat_ok (T.says.fact 48 (f := .noat "Scanner" "text") rfl)
theorem Top.n_Scanner_at (T : Top K mg) : NoAttr K (He.ga K "Scanner") "at" := He.noat_ok (T.says.fact 49 (f := .noat "Scanner" "at") rfl)
theorem Top.n_Scanner_levels (T : Top K mg) : NoAttr K (He.ga K "Scanner") "levels" := He.noat_ok (T.says.fact 50 (f := .noat "Scanner" "levels") rfl)
theorem Top.n_Scanner_frames (T : Top K mg) : NoAttr K (He.ga K "Scanner") "frames" := He.noat_ok (T.says.fact 51 (f := .noat "Scanner" "frames") rfl)
theorem Top.n_Scanner_found (T : Top K mg) : NoAttr K (He.ga K "Scanner") "found" := He.noat_ok (T.says.fact 52 (f := .noat "Scanner" "found") rfl)
theorem Top.n_Scanner_failure (T : Top K mg) : NoAttr K (He.ga K "Scanner") "failure" := He.noat_ok (T.says.fact 53 (f := .noat "Scanner" "failure") rfl)
theorem Top.n_Scanner_is_fresh (T : Top K mg) : NoAttr K (He.ga K "Scanner") "is_fresh" := He.noat_ok (T.says.fact 54 (f := .noat "Scanner" "is_fresh") rfl)
theorem Top.n_Scanner_is_begun (T : Top K mg) : NoAttr K (He.ga K "Scanner") "is_begun" := He.noat_ok (T.says.fact 55 (f := .noat "Scanner" "is_begun") rfl)
theorem Top.n_Scanner_is_final (T : Top K mg) : NoAttr K (He.ga K "Scanner") "is_final" := He.noat_ok (T.says.fact 56 (f := .noat "Scanner" "is_final") rfl)
theorem Top.n_Scanner_is_over (T : Top K mg) : NoAttr K (He.ga K "Scanner") "is_over" := He.noat_ok (T.says.fact 57 (f := .noat "Scanner" "is_over") rfl)
theorem Top.n_Scanner_join (T : Top K mg) : NoAttr K (He.ga K "Scanner") "join" := He.noat_ok (T.says.fact 58 (f := .noat "Scanner" "join") rfl)
theorem Top.n_Frame_mark (T : Top K mg) : NoAttr K (He.ga K "Frame") "mark" := He.noat_ok (T.says.fact 59 (f := .noat "Frame" "mark") rfl)
theorem Top.n_Frame_at (T : Top K mg) : NoAttr K (He.ga K "Frame") "at" := He.noat_ok (T.says.fact 60 (f := .noat "Frame" "at") rfl)
theorem Top.n_Frame_quote (T : Top K mg) : NoAttr K (He.ga K "Frame") "quote" := He.noat_ok (T.says.fact 61 (f := .noat "Frame" "quote") rfl)
theorem Top.m_add (T : Top K mg) : Meth K (He.ga K "Scanner") "add" (He.ma K (He.ga K "Scanner") "add") := He.meth_ok (T.says.fact 62 (f := .meth "Scanner" "add") rfl)
theorem Top.m_add_lexeme (T : Top K mg) : Meth K (He.ga K "Scanner") "add_lexeme" (He.ma K (He.ga K "Scanner") "add_lexeme") := He.meth_ok (T.says.fact 63 (f := .meth "Scanner" "add_lexeme") rfl)
theorem Top.m_finish (T : Top K mg) : Meth K (He.ga K "Scanner") "finish" (He.ma K (He.ga K "Scanner") "finish") := He.meth_ok (T.says.fact 64 (f := .meth "Scanner" "finish") rfl)
theorem Top.m_comment_end (T : Top K mg) : Meth K (He.ga K "Scanner") "comment_end" (He.ma K (He.ga K "Scanner") "comment_end") := He.meth_ok (T.says.fact 65 (f := .meth "Scanner" "comment_end") rfl)
theorem Top.m_read_comment (T : Top K mg) : Meth K (He.ga K "Scanner") "read_comment" (He.ma K (He.ga K "Scanner") "read_comment") := He.meth_ok (T.says.fact 66 (f := .meth "Scanner" "read_comment") rfl)
theorem Top.m_read_line_feed (T : Top K mg) : Meth K (He.ga K "Scanner") "read_line_feed" (He.ma K (He.ga K "Scanner") "read_line_feed") := He.meth_ok (T.says.fact 67 (f := .meth "Scanner" "read_line_feed") rfl)
theorem Top.m_read_last_gap (T : Top K mg) : Meth K (He.ga K "Scanner") "read_last_gap" (He.ma K (He.ga K "Scanner") "read_last_gap") := He.meth_ok (T.says.fact 68 (f := .meth "Scanner" "read_last_gap") rfl)
theorem Top.m_read_empty_line (T : Top K mg) : Meth K (He.ga K "Scanner") "read_empty_line" (He.ma K (He.ga K "Scanner") "read_empty_line") := He.meth_ok (T.says.fact 69 (f := .meth "Scanner" "read_empty_line") rfl)
theorem Top.m_compare_indentation (T : Top K mg) : Meth K (He.ga K "Scanner") "compare_indentation" (He.ma K (He.ga K "Scanner") "compare_indentation") := He.meth_ok (T.says.fact 70 (f := .meth "Scanner" "compare_indentation") rfl)
theorem Top.m_read_indentation (T : Top K mg) : Meth K (He.ga K "Scanner") "read_indentation" (He.ma K (He.ga K "Scanner") "read_indentation") := He.meth_ok (T.says.fact 71 (f := .meth "Scanner" "read_indentation") rfl)
theorem Top.m_read_string (T : Top K mg) : Meth K (He.ga K "Scanner") "read_string" (He.ma K (He.ga K "Scanner") "read_string") := He.meth_ok (T.says.fact 72 (f := .meth "Scanner" "read_string") rfl)
theorem Top.m_begin_string (T : Top K mg) : Meth K (He.ga K "Scanner") "begin_string" (He.ma K (He.ga K "Scanner") "begin_string") := He.meth_ok (T.says.fact 73 (f := .meth "Scanner" "begin_string") rfl)
theorem Top.m_read_word (T : Top K mg) : Meth K (He.ga K "Scanner") "read_word" (He.ma K (He.ga K "Scanner") "read_word") := He.meth_ok (T.says.fact 74 (f := .meth "Scanner" "read_word") rfl)
theorem Top.m_read_operator (T : Top K mg) : Meth K (He.ga K "Scanner") "read_operator" (He.ma K (He.ga K "Scanner") "read_operator") := He.meth_ok (T.says.fact 75 (f := .meth "Scanner" "read_operator") rfl)
theorem Top.m_read_lexeme (T : Top K mg) : Meth K (He.ga K "Scanner") "read_lexeme" (He.ma K (He.ga K "Scanner") "read_lexeme") := He.meth_ok (T.says.fact 76 (f := .meth "Scanner" "read_lexeme") rfl)
theorem Top.m_add_part (T : Top K mg) : Meth K (He.ga K "Scanner") "add_part" (He.ma K (He.ga K "Scanner") "add_part") := He.meth_ok (T.says.fact 77 (f := .meth "Scanner" "add_part") rfl)
theorem Top.m_part_end (T : Top K mg) : Meth K (He.ga K "Scanner") "part_end" (He.ma K (He.ga K "Scanner") "part_end") := He.meth_ok (T.says.fact 78 (f := .meth "Scanner" "part_end") rfl)
theorem Top.m_read_part (T : Top K mg) : Meth K (He.ga K "Scanner") "read_part" (He.ma K (He.ga K "Scanner") "read_part") := He.meth_ok (T.says.fact 79 (f := .meth "Scanner" "read_part") rfl)
theorem Top.m_read_step (T : Top K mg) : Meth K (He.ga K "Scanner") "read_step" (He.ma K (He.ga K "Scanner") "read_step") := He.meth_ok (T.says.fact 80 (f := .meth "Scanner" "read_step") rfl)
theorem Top.m_read_on (T : Top K mg) : Meth K (He.ga K "Scanner") "read_on" (He.ma K (He.ga K "Scanner") "read_on") := He.meth_ok (T.says.fact 81 (f := .meth "Scanner" "read_on") rfl)
theorem Top.m_feed (T : Top K mg) : Meth K (He.ga K "Scanner") "feed" (He.ma K (He.ga K "Scanner") "feed") := He.meth_ok (T.says.fact 82 (f := .meth "Scanner" "feed") rfl)
theorem Top.m_close (T : Top K mg) : Meth K (He.ga K "Scanner") "close" (He.ma K (He.ga K "Scanner") "close") := He.meth_ok (T.says.fact 83 (f := .meth "Scanner" "close") rfl)
theorem Top.d_is_word_character (T : Top K mg) : ∃ fd, FnP K "is_word_character" "is_word_character" s_is_word_character (He.ga K "is_word_character") fd := T.says.def_ 0 rfl
theorem b_is_word_character : BindsBy "is_word_character" "is_word_character" s_is_word_character p_is_word_character := fun _ _ _ _ _ _ us hl => match us, hl with | [_], _ => rfl
theorem Top.d_name_end (T : Top K mg) : ∃ fd, FnP K "name_end" "name_end" s_name_end (He.ga K "name_end") fd := T.says.def_ 1 rfl
theorem b_name_end : BindsBy "name_end" "name_end" s_name_end p_name_end := fun _ _ _ _ _ _ us hl => match us, hl with | [_, _], _ => rfl
theorem Top.d_operator_end (T : Top K mg) : ∃ fd, FnP K "operator_end" "operator_end" s_operator_end (He.ga K "operator_end") fd := T.says.def_ 2 rfl
theorem b_operator_end : BindsBy "operator_end" "operator_end" s_operator_end p_operator_end := fun _ _ _ _ _ _ us hl => match us, hl with | [_, _, _], _ => rfl
theorem Top.d_quote_at (T : Top K mg) : ∃ fd, FnP K "quote_at" "quote_at" s_quote_at (He.ga K "quote_at") fd := T.says.def_ 3 rfl
theorem b_quote_at : BindsBy "quote_at" "quote_at" s_quote_at p_quote_at := fun _ _ _ _ _ _ us hl => match us, hl with | [_, _, _], _ => rfl
theorem Top.d_string_end (T : Top K mg) : ∃ fd, FnP K "string_end" "string_end" s_string_end (He.ga K "string_end") fd := T.says.def_ 4 rfl
theorem b_string_end : BindsBy "string_end" "string_end" s_string_end p_string_end := fun _ _ _ _ _ _ us hl => match us, hl with | [_, _, _, _], _ => rfl
theorem Top.d_Frame_init (T : Top K mg) : ∃ fd, FnP K "__init__" "Frame.__init__" s_Frame_init (He.ma K (He.ga K "Frame") "__init__") fd := T.says.def_ 5 rfl
theorem b_Frame_init : BindsBy "__init__" "Frame.__init__" s_Frame_init p_Frame_init := fun _ _ _ _ _ _ us hl => match us, hl with | [_, _, _, _], _ => rfl
theorem Top.d_width_of (T : Top K mg) : ∃ fd, FnP K "width_of" "width_of" s_width_of (He.ga K "width_of") fd := T.says.def_ 6 rfl
theorem b_width_of : BindsBy "width_of" "width_of" s_width_of p_width_of := fun _ _ _ _ _ _ us hl => match us, hl with | [_], _ => rfl
theorem Top.d_Scanner_init (T : Top K mg) : ∃ fd, FnP K "__init__" "Scanner.__init__" s_Scanner_init (He.ma K (He.ga K "Scanner") "__init__") fd := T.says.def_ 7 rfl
theorem b_Scanner_init : BindsBy "__init__" "Scanner.__init__" s_Scanner_init p_Scanner_init := fun _ _ _ _ _ _ us hl => match us, hl with | [_], _ => rfl
theorem Top.d_Scanner_add (T : Top K mg) : ∃ fd, FnP K "add" "Scanner.add" s_Scanner_add (He.ma K (He.ga K "Scanner") "add") fd := T.says.def_ 8 rfl
theorem b_Scanner_add : BindsBy "add" "Scanner.add" s_Scanner_add p_Scanner_add := fun _ _ _ _ _ _ us hl => match us, hl with | [_, _, _], _ => rfl
theorem Top.d_Scanner_add_lexeme (T : Top K mg) : ∃ fd, FnP K "add_lexeme" "Scanner.add_lexeme" s_Scanner_add_lexeme (He.ma K (He.ga K "Scanner") "add_lexeme") fd := T.says.def_ 9 rfl
theorem b_Scanner_add_lexeme : BindsBy "add_lexeme" "Scanner.add_lexeme" s_Scanner_add_lexeme p_Scanner_add_lexeme := fun _ _ _ _ _ _ us hl => match us, hl with | [_, _, _], _ => rfl
theorem Top.d_Scanner_finish (T : Top K mg) : ∃ fd, FnP K "finish" "Scanner.finish" s_Scanner_finish (He.ma K (He.ga K "Scanner") "finish") fd := T.says.def_ 10 rfl
theorem b_Scanner_finish : BindsBy "finish" "Scanner.finish" s_Scanner_finish p_Scanner_finish := fun _ _ _ _ _ _ us hl => match us, hl with | [_], _ => rfl
theorem Top.d_Scanner_comment_end (T : Top K mg) : ∃ fd, FnP K "comment_end" "Scanner.comment_end" s_Scanner_comment_end (He.ma K (He.ga K "Scanner") "comment_end") fd := T.says.def_ 11 rfl
theorem b_Scanner_comment_end : BindsBy "comment_end" "Scanner.comment_end" s_Scanner_comment_end p_Scanner_comment_end := fun _ _ _ _ _ _ us hl => match us, hl with | [_, _], _ => rfl
theorem Top.d_Scanner_read_comment (T : Top K mg) : ∃ fd, FnP K "read_comment" "Scanner.read_comment" s_Scanner_read_comment (He.ma K (He.ga K "Scanner") "read_comment") fd := T.says.def_ 12 rfl
theorem b_Scanner_read_comment : BindsBy "read_comment" "Scanner.read_comment" s_Scanner_read_comment p_Scanner_read_comment := fun _ _ _ _ _ _ us hl => match us, hl with | [_], _ => rfl
theorem Top.d_Scanner_read_line_feed (T : Top K mg) : ∃ fd, FnP K "read_line_feed" "Scanner.read_line_feed" s_Scanner_read_line_feed (He.ma K (He.ga K "Scanner") "read_line_feed") fd := T.says.def_ 13 rfl
theorem b_Scanner_read_line_feed : BindsBy "read_line_feed" "Scanner.read_line_feed" s_Scanner_read_line_feed p_Scanner_read_line_feed := fun _ _ _ _ _ _ us hl => match us, hl with | [_], _ => rfl
theorem Top.d_Scanner_read_last_gap (T : Top K mg) : ∃ fd, FnP K "read_last_gap" "Scanner.read_last_gap" s_Scanner_read_last_gap (He.ma K (He.ga K "Scanner") "read_last_gap") fd := T.says.def_ 14 rfl
theorem b_Scanner_read_last_gap : BindsBy "read_last_gap" "Scanner.read_last_gap" s_Scanner_read_last_gap p_Scanner_read_last_gap := fun _ _ _ _ _ _ us hl => match us, hl with | [_, _], _ => rfl
theorem Top.d_Scanner_read_empty_line (T : Top K mg) : ∃ fd, FnP K "read_empty_line" "Scanner.read_empty_line" s_Scanner_read_empty_line (He.ma K (He.ga K "Scanner") "read_empty_line") fd := T.says.def_ 15 rfl
theorem b_Scanner_read_empty_line : BindsBy "read_empty_line" "Scanner.read_empty_line" s_Scanner_read_empty_line p_Scanner_read_empty_line := fun _ _ _ _ _ _ us hl => match us, hl with | [_, _], _ => rfl
theorem Top.d_Scanner_compare_indentation (T : Top K mg) : ∃ fd, FnP K "compare_indentation" "Scanner.compare_indentation" s_Scanner_compare_indentation (He.ma K (He.ga K "Scanner") "compare_indentation") fd := T.says.def_ 16 rfl
theorem b_Scanner_compare_indentation : BindsBy "compare_indentation" "Scanner.compare_indentation" s_Scanner_compare_indentation p_Scanner_compare_indentation := fun _ _ _ _ _ _ us hl => match us, hl with | [_, _, _], _ => rfl
theorem Top.d_Scanner_read_indentation (T : Top K mg) : ∃ fd, FnP K "read_indentation" "Scanner.read_indentation" s_Scanner_read_indentation (He.ma K (He.ga K "Scanner") "read_indentation") fd := T.says.def_ 17 rfl
theorem b_Scanner_read_indentation : BindsBy "read_indentation" "Scanner.read_indentation" s_Scanner_read_indentation p_Scanner_read_indentation := fun _ _ _ _ _ _ us hl => match us, hl with | [_], _ => rfl
theorem Top.d_Scanner_read_string (T : Top K mg) : ∃ fd, FnP K "read_string" "Scanner.read_string" s_Scanner_read_string (He.ma K (He.ga K "Scanner") "read_string") fd := T.says.def_ 18 rfl
theorem b_Scanner_read_string : BindsBy "read_string" "Scanner.read_string" s_Scanner_read_string p_Scanner_read_string := fun _ _ _ _ _ _ us hl => match us, hl with | [_, _], _ => rfl
theorem Top.d_Scanner_begin_string (T : Top K mg) : ∃ fd, FnP K "begin_string" "Scanner.begin_string" s_Scanner_begin_string (He.ma K (He.ga K "Scanner") "begin_string") fd := T.says.def_ 19 rfl
theorem b_Scanner_begin_string : BindsBy "begin_string" "Scanner.begin_string" s_Scanner_begin_string p_Scanner_begin_string := fun _ _ _ _ _ _ us hl => match us, hl with | [_, _], _ => rfl
theorem Top.d_Scanner_read_word (T : Top K mg) : ∃ fd, FnP K "read_word" "Scanner.read_word" s_Scanner_read_word (He.ma K (He.ga K "Scanner") "read_word") fd := T.says.def_ 20 rfl
theorem b_Scanner_read_word : BindsBy "read_word" "Scanner.read_word" s_Scanner_read_word p_Scanner_read_word := fun _ _ _ _ _ _ us hl => match us, hl with | [_], _ => rfl
theorem Top.d_Scanner_read_operator (T : Top K mg) : ∃ fd, FnP K "read_operator" "Scanner.read_operator" s_Scanner_read_operator (He.ma K (He.ga K "Scanner") "read_operator") fd := T.says.def_ 21 rfl
theorem b_Scanner_read_operator : BindsBy "read_operator" "Scanner.read_operator" s_Scanner_read_operator p_Scanner_read_operator := fun _ _ _ _ _ _ us hl => match us, hl with | [_, _], _ => rfl
theorem Top.d_Scanner_read_lexeme (T : Top K mg) : ∃ fd, FnP K "read_lexeme" "Scanner.read_lexeme" s_Scanner_read_lexeme (He.ma K (He.ga K "Scanner") "read_lexeme") fd := T.says.def_ 22 rfl
theorem b_Scanner_read_lexeme : BindsBy "read_lexeme" "Scanner.read_lexeme" s_Scanner_read_lexeme p_Scanner_read_lexeme := fun _ _ _ _ _ _ us hl => match us, hl with | [_, _], _ => rfl
theorem Top.d_Scanner_add_part (T : Top K mg) : ∃ fd, FnP K "add_part" "Scanner.add_part" s_Scanner_add_part (He.ma K (He.ga K "Scanner") "add_part") fd := T.says.def_ 23 rfl
theorem b_Scanner_add_part : BindsBy "add_part" "Scanner.add_part" s_Scanner_add_part p_Scanner_add_part := fun _ _ _ _ _ _ us hl => match us, hl with | [_, _], _ => rfl
theorem Top.d_Scanner_part_end (T : Top K mg) : ∃ fd, FnP K "part_end" "Scanner.part_end" s_Scanner_part_end (He.ma K (He.ga K "Scanner") "part_end") fd := T.says.def_ 24 rfl
theorem b_Scanner_part_end : BindsBy "part_end" "Scanner.part_end" s_Scanner_part_end p_Scanner_part_end := fun _ _ _ _ _ _ us hl => match us, hl with | [_, _], _ => rfl
theorem Top.d_Scanner_read_part (T : Top K mg) : ∃ fd, FnP K "read_part" "Scanner.read_part" s_Scanner_read_part (He.ma K (He.ga K "Scanner") "read_part") fd := T.says.def_ 25 rfl
theorem b_Scanner_read_part : BindsBy "read_part" "Scanner.read_part" s_Scanner_read_part p_Scanner_read_part := fun _ _ _ _ _ _ us hl => match us, hl with | [_, _], _ => rfl
theorem Top.d_Scanner_read_step (T : Top K mg) : ∃ fd, FnP K "read_step" "Scanner.read_step" s_Scanner_read_step (He.ma K (He.ga K "Scanner") "read_step") fd := T.says.def_ 26 rfl
theorem b_Scanner_read_step : BindsBy "read_step" "Scanner.read_step" s_Scanner_read_step p_Scanner_read_step := fun _ _ _ _ _ _ us hl => match us, hl with | [_], _ => rfl
theorem Top.d_Scanner_read_on (T : Top K mg) : ∃ fd, FnP K "read_on" "Scanner.read_on" s_Scanner_read_on (He.ma K (He.ga K "Scanner") "read_on") fd := T.says.def_ 27 rfl
theorem b_Scanner_read_on : BindsBy "read_on" "Scanner.read_on" s_Scanner_read_on p_Scanner_read_on := fun _ _ _ _ _ _ us hl => match us, hl with | [_], _ => rfl
theorem Top.d_Scanner_feed (T : Top K mg) : ∃ fd, FnP K "feed" "Scanner.feed" s_Scanner_feed (He.ma K (He.ga K "Scanner") "feed") fd := T.says.def_ 28 rfl
theorem b_Scanner_feed : BindsBy "feed" "Scanner.feed" s_Scanner_feed p_Scanner_feed := fun _ _ _ _ _ _ us hl => match us, hl with | [_, _], _ => rfl
theorem Top.d_Scanner_close (T : Top K mg) : ∃ fd, FnP K "close" "Scanner.close" s_Scanner_close (He.ma K (He.ga K "Scanner") "close") fd := T.says.def_ 29 rfl
theorem b_Scanner_close : BindsBy "close" "Scanner.close" s_Scanner_close p_Scanner_close := fun _ _ _ _ _ _ us hl => match us, hl with | [_], _ => rfl
theorem Top.d_read (T : Top K mg) : ∃ fd, FnP K "read" "read" s_read (He.ga K "read") fd := T.says.def_ 30 rfl
theorem b_read : BindsBy "read" "read" s_read p_read := fun _ _ _ _ _ _ us hl => match us, hl with | [_], _ => rfl
theorem Top.d_law_bag (T : Top K mg) : ∃ fd, FnP K "_law_bag" "_law_bag" s_law_bag (He.ga K "_law_bag") fd := T.says.def_ 31 rfl
theorem b_law_bag : BindsBy "_law_bag" "_law_bag" s_law_bag p_law_bag := fun _ _ _ _ _ _ us hl => match us, hl with | [_, _], _ => rfl
theorem Top.d_law_take (T : Top K mg) : ∃ fd, FnP K "_law_take" "_law_take" s_law_take (He.ga K "_law_take") fd := T.says.def_ 32 rfl
theorem b_law_take : BindsBy "_law_take" "_law_take" s_law_take p_law_take := fun _ _ _ _ _ _ us hl => match us, hl with | [_, _], _ => rfl
theorem Top.d_law_pick (T : Top K mg) : ∃ fd, FnP K "_law_pick" "_law_pick" s_law_pick (He.ga K "_law_pick") fd := T.says.def_ 33 rfl
theorem b_law_pick : BindsBy "_law_pick" "_law_pick" s_law_pick p_law_pick := fun _ _ _ _ _ _ us hl => match us, hl with | [_, _], _ => rfl
theorem Top.d_law_plain (T : Top K mg) : ∃ fd, FnP K "_law_plain" "_law_plain" s_law_plain (He.ga K "_law_plain") fd := T.says.def_ 34 rfl
theorem b_law_plain : BindsBy "_law_plain" "_law_plain" s_law_plain p_law_plain := fun _ _ _ _ _ _ us hl => match us, hl with | [_], _ => rfl
theorem Top.d_law_atom (T : Top K mg) : ∃ fd, FnP K "_law_atom" "_law_atom" s_law_atom (He.ga K "_law_atom") fd := T.says.def_ 35 rfl
theorem b_law_atom : BindsBy "_law_atom" "_law_atom" s_law_atom p_law_atom := fun _ _ _ _ _ _ us hl => match us, hl with | [_, _], _ => rfl
theorem Top.d_law_row (T : Top K mg) : ∃ fd, FnP K "_law_row" "_law_row" s_law_row (He.ga K "_law_row") fd := T.says.def_ 36 rfl
theorem b_law_row : BindsBy "_law_row" "_law_row" s_law_row p_law_row := fun _ _ _ _ _ _ us hl => match us, hl with | [_, _, _], _ => rfl
theorem Top.d_law_formatted (T : Top K mg) : ∃ fd, FnP K "_law_formatted" "_law_formatted" s_law_formatted (He.ga K "_law_formatted") fd := T.says.def_ 37 rfl
theorem b_law_formatted : BindsBy "_law_formatted" "_law_formatted" s_law_formatted p_law_formatted := fun _ _ _ _ _ _ us hl => match us, hl with | [_, _], _ => rfl
theorem Top.d_law_source (T : Top K mg) : ∃ fd, FnP K "_law_source" "_law_source" s_law_source (He.ga K "_law_source") fd := T.says.def_ 38 rfl
theorem b_law_source : BindsBy "_law_source" "_law_source" s_law_source p_law_source := fun _ _ _ _ _ _ us hl => match us, hl with | [_, _], _ => rfl
theorem Top.d_law_spoilt (T : Top K mg) : ∃ fd, FnP K "_law_spoilt" "_law_spoilt" s_law_spoilt (He.ga K "_law_spoilt") fd := T.says.def_ 39 rfl
theorem b_law_spoilt : BindsBy "_law_spoilt" "_law_spoilt" s_law_spoilt p_law_spoilt := fun _ _ _ _ _ _ us hl => match us, hl with | [_, _], _ => rfl
theorem Top.d_law_any_source (T : Top K mg) : ∃ fd, FnP K "_law_any_source" "_law_any_source" s_law_any_source (He.ga K "_law_any_source") fd := T.says.def_ 40 rfl
theorem b_law_any_source : BindsBy "_law_any_source" "_law_any_source" s_law_any_source p_law_any_source := fun _ _ _ _ _ _ us hl => match us, hl with | [_, _, _], _ => rfl
theorem Top.d_law_without (T : Top K mg) : ∃ fd, FnP K "_law_without" "_law_without" s_law_without (He.ga K "_law_without") fd := T.says.def_ 41 rfl
theorem b_law_without : BindsBy "_law_without" "_law_without" s_law_without p_law_without := fun _ _ _ _ _ _ us hl => match us, hl with | [_, _], _ => rfl
theorem Top.d_law_right (T : Top K mg) : ∃ fd, FnP K "_law_right" "_law_right" s_law_right (He.ga K "_law_right") fd := T.says.def_ 42 rfl
theorem b_law_right : BindsBy "_law_right" "_law_right" s_law_right p_law_right := fun _ _ _ _ _ _ us hl => match us, hl with | [_, _], _ => rfl
theorem Top.d_law_formatted_right (T : Top K mg) : ∃ fd, FnP K "_law_formatted_right" "_law_formatted_right" s_law_formatted_right (He.ga K "_law_formatted_right") fd := T.says.def_ 43 rfl
theorem b_law_formatted_right : BindsBy "_law_formatted_right" "_law_formatted_right" s_law_formatted_right p_law_formatted_right := fun _ _ _ _ _ _ us hl => match us, hl with | [_, _], _ => rfl
theorem Top.d_law_comment_right (T : Top K mg) : ∃ fd, FnP K "_law_comment_right" "_law_comment_right" s_law_comment_right (He.ga K "_law_comment_right") fd := T.says.def_ 44 rfl
theorem b_law_comment_right : BindsBy "_law_comment_right" "_law_comment_right" s_law_comment_right p_law_comment_right := fun _ _ _ _ _ _ us hl => match us, hl with | [_], _ => rfl
theorem Top.d_law (T : Top K mg) : ∃ fd, FnP K "law" "law" s_law (He.ga K "law") fd := T.says.def_ 45 rfl
theorem b_law : BindsBy "law" "law" s_law p_law := fun _ _ _ _ _ _ us hl => match us, hl with | [_], _ => rfl
theorem Top.t_PLAIN_PREFIXES (T : Top K mg) (H : Hp) : SqT K H (He.ga K "PLAIN_PREFIXES") (l_PLAIN_PREFIXES.map V.str) := by
  have h := He.tupB_ok (vs := l_PLAIN_PREFIXES.map He.Dv.str) (He.ba T.ex).1 H
  rw [List.map_map] at h
  exact h
theorem Top.t_FORMATTED_PREFIXES (T : Top K mg) (H : Hp) : SqT K H (He.ga K "FORMATTED_PREFIXES") (l_FORMATTED_PREFIXES.map V.str) := by
  have h := He.tupB_ok (vs := l_FORMATTED_PREFIXES.map He.Dv.str) (He.ba (He.ba T.ex).2).1 H
  rw [List.map_map] at h
  exact h
theorem Top.t_OPERATORS (T : Top K mg) (H : Hp) : SqT K H (He.ga K "OPERATORS") (l_OPERATORS.map V.str) := by
  have h := He.tupB_ok (vs := l_OPERATORS.map He.Dv.str) (He.ba (He.ba T.ex).2).2 H
  rw [List.map_map] at h
  exact h
end
end
section
/-! The walk a step at a time: one lemma a reading, and one word that takes the step that fits. -/
section
variable {K : PySem.W.Frag} {σ σ' : L2.St} {H : Hp} {Q : VK} {R : Bool → Hp → Prop} {QA : List V → Hp → Prop} {D : Ends} {ta tb te tc : TE} {t u : TS} {tt tt' : TT} {tr : TA} {x y v : V} {i j : Int} {n m : Nat} {z w : Str} {a p C dx : Addr} {fs : List (Str × V)} {f : Str} {xs : List V} {b c : Bool}
/-! statements -/
theorem g_seq (h : t { D with nx := u D } σ H) : tSeq t u D σ H := h
theorem g_asg {g : TG} (h : te σ H fun x H1 => g x σ H1 D.nx) : tAsg te g D σ H := h
theorem g_name {Q : L2.St → Hp → Prop} (h : Q (σ.set n (some v)) H) : gName n v σ H Q := h
theorem g_ret (h : te σ H D.rt) : tRet te D σ H := h
theorem g_drop (h : te σ H fun _ H1 => D.nx σ H1) : tDrop te D σ H := h
theorem g_next (h : D.nx σ H) : tNext D σ H := h
theorem g_if (h : tt σ H fun b H1 => if b = true then t D σ H1 else u D σ H1) : tIfS tt t u D σ H := h
theorem g_retN (h : D.rt .non H) : tRetN D σ H := h
theorem g_aug {ti : TIp} (h : σ[n]? = some (some x)) (q : te σ H fun y H1 => ti x y H1 fun z H2 => D.nx (σ.set n (some z)) H2) : tAug n te ti D σ H := ⟨x, h, q⟩
theorem g_ipI {g : Int → Int → Int} (q : Q (.int (g i j)) H) : ipI g (.int i) (.int j) H Q := ⟨i, j, rfl, rfl, q⟩
/-! expressions -/
theorem g_var (h : σ[n]? = some (some v)) (q : Q v H) : tVar n σ H Q := ⟨v, h, q⟩
theorem g_c (q : Q v H) : tC v σ H Q := q
theorem g_op {r : R2} (q : ta σ H fun x H1 => tb σ H1 fun y H2 => r x y H2 Q) : tOp r ta tb σ H Q := q
theorem g_un {r : V → Hp → VK → Prop} (q : ta σ H fun x H1 => r x H1 Q) : tUn r ta σ H Q := q
theorem g_rU {g : Int → V} (q : Q (g i) H) : rU g (.int i) H Q := ⟨i, rfl, q⟩
theorem g_I0 {g : Int → Int → V} (q : Q (g i j) H) : rI0 g (.int i) (.int j) H Q := ⟨i, j, rfl, rfl, q⟩
theorem g_I {C : Int → Int → Prop} {g : Int → Int → V} (h : C i j) (q : Q (g i j) H) : rI C g (.int i) (.int j) H Q := ⟨i, j, rfl, rfl, h, q⟩
theorem g_eq (h : scal x y = true) (q : Q (.bl (decide (x = y))) H) : rEq x y H Q := ⟨h, q⟩
theorem g_ne (h : scal x y = true) (q : Q (.bl (!decide (x = y))) H) : rNe x y H Q := ⟨h, q⟩
theorem g_inS {c : Nat} (q : Q (.bl (decide (c ∈ tl z))) H) : rInS (.str ⟨#[c]⟩) (.str z) H Q := ⟨c, z, rfl, rfl, q⟩
theorem g_notInS {c : Nat} (q : Q (.bl (!decide (c ∈ tl z))) H) : rNotInS (.str ⟨#[c]⟩) (.str z) H Q := ⟨c, z, rfl, rfl, q⟩
theorem g_addS (h : z.length + w.length ≤ sizeLine) (q : Q (.str (z ++ w)) H) : rAddS (.str z) (.str w) H Q := ⟨z, w, rfl, rfl, h, q⟩
theorem g_mulS (h1 : n ≤ 1000) (h2 : z.length ≤ 1000) (q : Q (.str (repS z n)) H) : rMulS (.str z) (.int (n : Int)) H Q := ⟨z, n, rfl, rfl, h1, h2, q⟩
theorem g_ixS {c : Nat} (hz : z.length ≤ sizeLine) (h : (tl z)[n]? = some c) (q : Q (.str ⟨#[c]⟩) H) : rIxS (.str z) (.int (n : Int)) H Q := ⟨z, n, c, rfl, rfl, hz, atI_nat h, q⟩
theorem g_ixL (hs : SqL K H p xs) (h : atI xs i = some v) (q : Q v H) : rIxL K (.ref p) (.int i) H Q := ⟨p, xs, i, v, rfl, rfl, hs, h, q⟩
theorem g_ixT (hs : SqT K H p xs) (h : atI xs i = some v) (q : Q v H) : rIxT K (.ref p) (.int i) H Q := ⟨p, xs, i, v, rfl, rfl, hs, h, q⟩
theorem g_in {neg : Bool} (hs : SqL K H p xs ∨ SqT K H p xs) (hx : flatV x = true) (ha : xs.all flatV = true) (q : Q (.bl (if neg then !inV x xs else inV x xs)) H) : rIn K neg x (.ref p) H Q := ⟨p, xs, rfl, hs, hx, ha, q⟩
theorem g_neNil {q : Addr} (h1 : SqL K H p xs) (h2 : SqL K H q []) (k : Q (.bl (!xs.isEmpty)) H) : rNeNil K (.ref p) (.ref q) H Q := ⟨p, q, xs, rfl, rfl, h1, h2, k⟩
theorem g_eqNil {q : Addr} (h1 : SqL K H p xs) (h2 : SqL K H q []) (k : Q (.bl xs.isEmpty) H) : rEqNil K (.ref p) (.ref q) H Q := ⟨p, q, xs, rfl, rfl, h1, h2, k⟩
/-- a field -/
def FldAt (K : PySem.W.Frag) (x : V) (f : Str) (H : Hp) (Q : VK) : Prop := ∃ a C dx fs v, x = .ref a ∧ H a = some (.ins C dx fs) ∧ Cls K C ∧ NoAttr K C f ∧ fs.lookup f = some v ∧ Q v H
theorem g_fld (q : ta σ H fun x H1 => FldAt K x f H1 Q) : tFld K ta f σ H Q := q
theorem g_fldAt (h : H a = some (.ins C dx fs)) (c : Cls K C) (n : NoAttr K C f) (l : fs.lookup f = some v) (q : Q v H) : FldAt K (.ref a) f H Q := ⟨a, C, dx, fs, v, rfl, h, c, n, l, q⟩
/-- a field stored -/
def StAt (K : PySem.W.Frag) (x : V) (f : Str) (y : V) (H : Hp) (σ : L2.St) (N : L2.St → Hp → Prop) : Prop := ∃ a C dx fs, x = .ref a ∧ H a = some (.ins C dx fs) ∧ Cls K C ∧ NoAttr K C f ∧ fs.length < 1000 ∧ N σ (upd H a (.ins C dx (putF f y fs)))
theorem g_sFld {tv : TE} (q : tv σ H fun y H1 => ta σ H1 fun x H2 => StAt K x f y H2 σ D.nx) : sFld K ta tv f D σ H := q
theorem g_stAt {N : L2.St → Hp → Prop} {fs' : List (Str × V)} (h : H a = some (.ins C dx fs)) (c : Cls K C) (n : NoAttr K C f) (l : fs.length < 1000) (e : putF f y fs = fs') (q : N σ (upd H a (.ins C dx fs'))) : StAt K (.ref a) f y H σ N := by
  subst e
  exact ⟨a, C, dx, fs, rfl, h, c, n, l, q⟩
/-- lists, tuples written -/
theorem g_tup (q : tr σ H fun xs H1 => xs.length ≤ sizeLine ∧ ∀ p, H1 p = none → Q (.ref p) (upd H1 p (.tup xs))) : tTup tr σ H Q := q
theorem g_lst (q : tr σ H fun xs H1 => xs.length ≤ sizeLine ∧ ∀ p, H1 p = none → Q (.ref p) (upd H1 p (.lst xs))) : tLst tr σ H Q := q
theorem g_nil (q : QA [] H) : tNil σ H QA := q
theorem g_cons (q : te σ H fun x H1 => tr σ H1 fun xs H2 => QA (x :: xs) H2) : tCons te tr σ H QA := q
/-- built-ins -/
theorem g_cb {r : List V → Hp → VK → Prop} (q : tr σ H fun vs H1 => r vs H1 Q) : tCB r tr σ H Q := q
theorem g_lnS (hz : z.length ≤ sizeLine) (q : Q (.int z.length) H) : rLnS [.str z] H Q := ⟨z, rfl, hz, q⟩
theorem g_lnL (h : SqL K H p xs) (q : Q (.int xs.length) H) : rLnL K [.ref p] H Q := ⟨p, xs, rfl, h, q⟩
theorem g_bm {T : String} {r : V → List V → Hp → VK → Prop} (q : te σ H fun x H1 => tyV K T x H1 ∧ tr σ H1 fun xs H2 => r x xs H2 Q) : tBM K T r te tr σ H Q := q
theorem g_sl {r : V → Option Int → Option Int → Hp → VK → Prop} {tl th : TO} (q : te σ H fun x H1 => tl σ H1 fun l H2 => th σ H2 fun u H3 => r x l u H3 Q) : tSl r te tl th σ H Q := q
theorem g_part {QO : Option Int → Hp → Prop} (q : te σ H fun x H1 => ∃ i, x = .int i ∧ QO (some i) H1) : tPart te σ H QO := q
theorem g_noPart {QO : Option Int → Hp → Prop} (q : QO none H) : tNoPart σ H QO := q
theorem g_exI {F : Int → Prop} (q : F i) : ∃ k, V.int i = V.int k ∧ F k := ⟨i, rfl, q⟩
theorem g_slS {lo hi : Option Int} (hz : z.length ≤ sizeLine) (q : Q (.str (cutS z lo hi)) H) : rSlS (.str z) lo hi H Q := ⟨z, rfl, hz, q⟩
theorem g_slL {lo hi : Option Int} (h : SqL K H p xs) (q : ∀ r, H r = none → Q (.ref r) (upd H r (.lst (cutV xs lo hi)))) : rSlL K (.ref p) lo hi H Q := ⟨p, xs, rfl, h, q⟩
theorem g_ifE (q : tt σ H fun c H1 => if c = true then ta σ H1 Q else tb σ H1 Q) : tIf tt ta tb σ H Q := q
/-- tests -/
theorem g_test (q : te σ H fun x H' => ∃ k, x = .bl k ∧ R k H') : tTest te σ H R := q
theorem g_tB (q : te σ H fun x H' => ∃ k, x = .bl k ∧ R k H') : tB te σ H R := q
theorem g_isB (q : R b H) : ∃ k, V.bl b = V.bl k ∧ R k H := ⟨b, rfl, q⟩
theorem g_isBQ (q : Q (.bl b) H) : ∃ k, V.bl b = V.bl k ∧ Q (.bl k) H := ⟨b, rfl, q⟩
theorem g_and (q : tt σ H fun c H1 => if c = true then tt' σ H1 R else R false H1) : tAnd tt tt' σ H R := q
theorem g_or (q : tt σ H fun c H1 => if c = true then R true H1 else tt' σ H1 R) : tOr tt tt' σ H R := q
theorem g_not (q : tt σ H fun c H1 => R (!c) H1) : tNot tt σ H R := q
theorem g_orV (q : ta σ H fun x H1 => ∃ c, x = .bl c ∧ if c = true then Q (.bl true) H1 else tb σ H1 Q) : tOrV ta tb σ H Q := q
theorem g_andV (q : ta σ H fun x H1 => ∃ c, x = .bl c ∧ if c = true then tb σ H1 Q else Q (.bl false) H1) : tAndV ta tb σ H Q := q
theorem g_notV (q : ta σ H fun x H1 => ∃ c, x = .bl c ∧ Q (.bl (!c)) H1) : tNotV ta σ H Q := q
theorem g_exB {F : Bool → Prop} (q : F b) : ∃ k, V.bl b = V.bl k ∧ F k := ⟨b, rfl, q⟩
theorem g_yes (q : R true H) : tYes σ H R := q
/-- calls -/
theorem g_call {sp : Sp} {dvs : List V} {E : XK} (q : tr σ H fun vs H1 => sp (vs ++ dvs) H1 Q E) : tCall sp dvs E tr σ H Q := q
def MethAt (C : Addr) (m : Str) (sp : Sp) (dvs : List V) (E : XK) (tr : TA) (x : V) (σ : L2.St) (H : Hp) (Q : VK) : Prop := ∃ a dx fs, x = .ref a ∧ H a = some (.ins C dx fs) ∧ fs.lookup m = none ∧ tr σ H fun vs H2 => sp (x :: (vs ++ dvs)) H2 Q E
theorem g_meth {m : Str} {sp : Sp} {dvs : List V} {E : XK} (q : te σ H fun x H1 => MethAt C m sp dvs E tr x σ H1 Q) : tMeth C m sp dvs E te tr σ H Q := q
theorem g_methAt {m : Str} {sp : Sp} {dvs : List V} {E : XK} (h : H a = some (.ins C dx fs)) (l : fs.lookup m = none) (q : tr σ H fun vs H2 => sp (.ref a :: (vs ++ dvs)) H2 Q E) : MethAt C m sp dvs E tr (.ref a) σ H Q := ⟨a, dx, fs, rfl, h, l, q⟩
theorem g_par {k : Nat} (q : tr σ H fun vs H1 => ∃ v w, vs = [v, w] ∧ D.nx ((σ.set n (some v)).set k (some w)) H1) : tPar n k tr D σ H := q
theorem g_par3 {k l : Nat} (q : tr σ H fun vs H1 => ∃ u v w, vs = [u, v, w] ∧ D.nx (((σ.set n (some u)).set k (some v)).set l (some w)) H1) : tPar3 n k l tr D σ H := q
theorem g_two {F : V → V → Prop} (q : F x y) : ∃ u v, [x, y] = [u, v] ∧ F u v := ⟨x, y, rfl, q⟩
theorem g_three {F : V → V → V → Prop} (q : F x y v) : ∃ u v' w, [x, y, v] = [u, v', w] ∧ F u v' w := ⟨x, y, v, rfl, q⟩
theorem g_make {sp : Sp} {dvs : List V} {E : XK} (q : tr σ H fun vs H1 => ∀ x dx, H1 x = none → H1 dx = none → dx ≠ x → sp (.ref x :: (vs ++ dvs)) (upd (upd H1 dx (.own x)) x (.ins C dx [])) (fun v H2 => v = .non ∧ Q (.ref x) H2) E) : tMake C sp dvs E tr σ H Q := q
theorem g_inQ (hs : SqL K H p xs ∨ SqT K H p xs) (hx : flatV x = true) (ha : xs.all flatV = true) (q : Q (.bl (inV x xs)) H) : rIn K false x (.ref p) H Q := ⟨p, xs, rfl, hs, hx, ha, q⟩
/-- methods of texts -/
theorem g_m1 {r : V → List V → Hp → VK → Prop} (q : ta σ H fun x H1 => (∃ a, x = .str a) ∧ te σ H1 fun y H2 => r x [y] H2 Q) : tM1 r ta te σ H Q := q
theorem g_m0 {r : V → List V → Hp → VK → Prop} (q : ta σ H fun x H1 => (∃ a, x = .str a) ∧ r x [] H1 Q) : tM0 r ta σ H Q := q
theorem g_isS {A : Prop} (q : A) : (∃ a, V.str z = .str a) ∧ A := ⟨⟨z, rfl⟩, q⟩
theorem g_sw {F : Str → Str → Prop} (q : F z w) : ∃ a b, V.str z = .str a ∧ [V.str w] = [.str b] ∧ F a b := ⟨z, w, rfl, rfl, q⟩
/-- what follows a decided test -/
theorem g_ifT {A B : Prop} (h : b = true) (q : A) : if b = true then A else B := by
  rw [if_pos h]
  exact q
theorem g_ifF {A B : Prop} (h : b = false) (q : B) : if b = true then A else B := by
  rw [h, if_neg Bool.false_ne_true]
  exact q
theorem g_if2 {A B : Prop} (h1 : b = true → A) (h2 : b = false → B) : if b = true then A else B := by
  cases b with
  | true => exact h1 rfl
  | false => exact h2 rfl
end
theorem szL {n : Nat} (h : n ≤ 100000) : n ≤ sizeLine := Nat.le_trans h (by decide)
end
section
/-! The scanner's state as plain data; how it lies in the heap; what the stores do to it. -/

theorem g_start {N : List Str} {vs : List V} {σ : L2.St} {t : TS} {D : Ends} {H : Hp} (e : start N vs = σ) (h : t D σ H) : t D (start N vs) H := by
  rw [e]
  exact h
/-- a token: kind, text, offset -/
abbrev Tk := Str × Str × Nat
structure S where
  tx : Str
  at_ : Nat
  fresh : Bool
  begun : Bool
  final : Bool
  over : Bool
  join : Int
/-- where its parts stand: itself, levels, frames, found, the one level -/
structure Ad where
  p : Addr
  lv : Addr
  fr : Addr
  fo : Addr
  t0 : Addr
def sf (a : Ad) (s : S) : List (Str × V) := [(("text" : Str), V.str s.tx), (("at" : Str), V.int (s.at_ : Int)), (("levels" : Str), V.ref a.lv), (("frames" : Str), V.ref a.fr), (("found" : Str), V.ref a.fo), (("failure" : Str), V.non), (("is_fresh" : Str), V.bl s.fresh), (("is_begun" : Str), V.bl s.begun), (("is_final" : Str), V.bl s.final), (("is_over" : Str), V.bl s.over), (("join" : Str), V.int s.join)]
def ff (z : Int) (q : Str) : List (Str × V) := [(("mark" : Str), V.str "string"), (("at" : Str), V.int z), (("quote" : Str), V.str q)]
section
variable (a : Ad) (s : S)
theorem sf_text : (sf a s).lookup ("text" : Str) = some (V.str s.tx) := by rfl
theorem sf_at : (sf a s).lookup ("at" : Str) = some (V.int (s.at_ : Int)) := by rfl
theorem sf_levels : (sf a s).lookup ("levels" : Str) = some (V.ref a.lv) := by rfl
theorem sf_frames : (sf a s).lookup ("frames" : Str) = some (V.ref a.fr) := by rfl
theorem sf_found : (sf a s).lookup ("found" : Str) = some (V.ref a.fo) := by rfl
theorem sf_failure : (sf a s).lookup ("failure" : Str) = some (V.non) := by rfl
theorem sf_fresh : (sf a s).lookup ("is_fresh" : Str) = some (V.bl s.fresh) := by rfl
theorem sf_begun : (sf a s).lookup ("is_begun" : Str) = some (V.bl s.begun) := by rfl
theorem sf_final : (sf a s).lookup ("is_final" : Str) = some (V.bl s.final) := by rfl
theorem sf_over : (sf a s).lookup ("is_over" : Str) = some (V.bl s.over) := by rfl
theorem sf_join : (sf a s).lookup ("join" : Str) = some (V.int s.join) := by rfl
theorem sn_add : (sf a s).lookup ("add" : Str) = none := by rfl
theorem sn_add_lexeme : (sf a s).lookup ("add_lexeme" : Str) = none := by rfl
theorem sn_finish : (sf a s).lookup ("finish" : Str) = none := by rfl
theorem sn_comment_end : (sf a s).lookup ("comment_end" : Str) = none := by rfl
theorem sn_read_comment : (sf a s).lookup ("read_comment" : Str) = none := by rfl
theorem sn_read_line_feed : (sf a s).lookup ("read_line_feed" : Str) = none := by rfl
theorem sn_read_last_gap : (sf a s).lookup ("read_last_gap" : Str) = none := by rfl
theorem sn_read_empty_line : (sf a s).lookup ("read_empty_line" : Str) = none := by rfl
theorem sn_compare_indentation : (sf a s).lookup ("compare_indentation" : Str) = none := by rfl
theorem sn_read_indentation : (sf a s).lookup ("read_indentation" : Str) = none := by rfl
theorem sn_read_string : (sf a s).lookup ("read_string" : Str) = none := by rfl
theorem sn_begin_string : (sf a s).lookup ("begin_string" : Str) = none := by rfl
theorem sn_read_word : (sf a s).lookup ("read_word" : Str) = none := by rfl
theorem sn_read_operator : (sf a s).lookup ("read_operator" : Str) = none := by rfl
theorem sn_read_lexeme : (sf a s).lookup ("read_lexeme" : Str) = none := by rfl
theorem sn_add_part : (sf a s).lookup ("add_part" : Str) = none := by rfl
theorem sn_part_end : (sf a s).lookup ("part_end" : Str) = none := by rfl
theorem sn_read_part : (sf a s).lookup ("read_part" : Str) = none := by rfl
theorem sn_read_step : (sf a s).lookup ("read_step" : Str) = none := by rfl
theorem sn_read_on : (sf a s).lookup ("read_on" : Str) = none := by rfl
theorem sn_feed : (sf a s).lookup ("feed" : Str) = none := by rfl
theorem sn_close : (sf a s).lookup ("close" : Str) = none := by rfl
theorem sf_len : (sf a s).length < 1000 := by show 11 < 1000; decide
theorem sw_text (v : Str) : putF "text" (.str v) (sf a s) = sf a { s with tx := v } := by rfl
theorem sw_at (v : Nat) : putF "at" (.int (v : Int)) (sf a s) = sf a { s with at_ := v } := by rfl
theorem sw_fresh (v : Bool) : putF "is_fresh" (.bl v) (sf a s) = sf a { s with fresh := v } := by rfl
theorem sw_begun (v : Bool) : putF "is_begun" (.bl v) (sf a s) = sf a { s with begun := v } := by rfl
theorem sw_final (v : Bool) : putF "is_final" (.bl v) (sf a s) = sf a { s with final := v } := by rfl
theorem sw_over (v : Bool) : putF "is_over" (.bl v) (sf a s) = sf a { s with over := v } := by rfl
theorem sw_join (v : Int) : putF "join" (.int v) (sf a s) = sf a { s with join := v } := by rfl
end
theorem ff_mark (z : Int) (q : Str) : (ff z q).lookup ("mark" : Str) = some (.str "string") := by rfl
theorem ff_at (z : Int) (q : Str) : (ff z q).lookup ("at" : Str) = some (.int z) := by rfl
theorem ff_quote (z : Int) (q : Str) : (ff z q).lookup ("quote" : Str) = some (.str q) := by rfl
end
section
/-- the frames: none, or one formatted string's, which begins at 0 -/
def FrAt (CF : Addr) (H : Hp) (fr : Addr) : Option Str → Prop
  | none => H fr = some (.lst [])
  | some q => ∃ F dF, H fr = some (.lst [.ref F]) ∧ H F = some (.ins CF dF (ff 0 q))
def TokAt (H : Hp) : List Addr → List Tk → Prop
  | [], [] => True
  | a :: as, t :: ts => H a = some (.tup [.str t.1, .str t.2.1, .int (t.2.2 : Int)]) ∧ TokAt H as ts
  | _, _ => False
theorem TokAt.mono {H H' : Hp} (k : ∀ b xs, H b = some (.tup xs) → H' b = some (.tup xs)) : ∀ {as : List Addr} {ts : List Tk}, TokAt H as ts → TokAt H' as ts
  | [], [], _ => trivial
  | [], _ :: _, h => h
  | _ :: _, [], h => h
  | _ :: _, _ :: _, h => ⟨k _ _ h.1, TokAt.mono k h.2⟩
theorem TokAt.app {H : Hp} {b : Addr} {t : Tk} (hb : H b = some (.tup [.str t.1, .str t.2.1, .int (t.2.2 : Int)])) : ∀ {as : List Addr} {ts : List Tk}, TokAt H as ts → TokAt H (as ++ [b]) (ts ++ [t])
  | [], [], _ => ⟨hb, trivial⟩
  | [], _ :: _, h => h.elim
  | _ :: _, [], h => h.elim
  | _ :: _, _ :: _, h => ⟨h.1, TokAt.app hb h.2⟩
theorem TokAt.len {H : Hp} : ∀ {as : List Addr} {ts : List Tk}, TokAt H as ts → as.length = ts.length
  | [], [], _ => rfl
  | [], _ :: _, h => h.elim
  | _ :: _, [], h => h.elim
  | _ :: _, _ :: _, h => congrArg Nat.succ (TokAt.len h.2)
theorem TokAt.drop {H : Hp} : ∀ (n : Nat) {as : List Addr} {ts : List Tk}, TokAt H as ts → TokAt H (as.drop n) (ts.drop n)
  | 0, _, _, h => h
  | _ + 1, [], [], h => h
  | _ + 1, [], _ :: _, h => h.elim
  | _ + 1, _ :: _, [], h => h.elim
  | n + 1, _ :: _, _ :: _, h => TokAt.drop n h.2
theorem TokAt.cat {H : Hp} {bs : List Addr} {us : List Tk} (hb : TokAt H bs us) : ∀ {as : List Addr} {ts : List Tk}, TokAt H as ts → TokAt H (as ++ bs) (ts ++ us)
  | [], [], _ => hb
  | [], _ :: _, h => h.elim
  | _ :: _, [], h => h.elim
  | _ :: _, _ :: _, h => ⟨h.1, TokAt.cat hb h.2⟩
structure SA (C CF : Addr) (H : Hp) (a : Ad) (s : S) (fq : Option Str) (tk : List Tk) : Prop where
  ob : ∃ dx, H a.p = some (.ins C dx (sf a s))
  lv : H a.lv = some (.lst [.ref a.t0])
  t0 : H a.t0 = some (.tup [.int 0, .int 0])
  fr : FrAt CF H a.fr fq
  fo : ∃ as : List Addr, H a.fo = some (.lst (as.map V.ref)) ∧ TokAt H as tk
  n1 : a.lv ≠ a.fr
  n2 : a.lv ≠ a.fo
  n3 : a.fr ≠ a.fo
/-- all else is kept -/
def Kp (H H' : Hp) (a : Ad) : Prop := ∀ b o, H b = some o → b ≠ a.p → b ≠ a.fr → b ≠ a.fo → H' b = some o
theorem Kp.refl (H : Hp) (a : Ad) : Kp H H a := fun _ _ e _ _ _ => e
theorem Kp.trans {H H1 H2 : Hp} {a : Ad} (k : Kp H H1 a) (l : Kp H1 H2 a) : Kp H H2 a := fun b o e h1 h2 h3 => l b o (k b o e h1 h2 h3) h1 h2 h3
theorem Kp.p {H : Hp} {a : Ad} {o : HO} : Kp H (upd H a.p o) a := fun b u e h1 _ _ => by
  rw [upd_ne h1]
  exact e
theorem Kp.frs {H : Hp} {a : Ad} {o : HO} : Kp H (upd H a.fr o) a := fun b u e _ h1 _ => by
  rw [upd_ne h1]
  exact e
theorem Kp.fos {H : Hp} {a : Ad} {o : HO} : Kp H (upd H a.fo o) a := fun b u e _ _ h1 => by
  rw [upd_ne h1]
  exact e
theorem Kp.new {H : Hp} {a : Ad} {b : Addr} {o : HO} (h : H b = none) : Kp H (upd H b o) a := fun c u e _ _ _ => by
  rw [upd_ne (ne_of_none e h)]
  exact e
theorem Kp.same {H H' : Hp} {a : Ad} (k : Same H H') : Kp H H' a := fun b o e _ _ _ => k b o e
section
variable {C CF : Addr} {H H' : Hp} {a : Ad} {s s' : S} {fq fq' : Option Str} {tk tk' : List Tk}
theorem SA.frL (h : SA C CF H a s fq tk) : ∃ xs, H a.fr = some (.lst xs) := by
  have q := h.fr
  cases fq with
  | none => exact ⟨_, q⟩
  | some z =>
    obtain ⟨F, dF, e, _⟩ := q
    exact ⟨_, e⟩
theorem SA.np_fr (h : SA C CF H a s fq tk) : a.fr ≠ a.p := by
  obtain ⟨xs, e⟩ := h.frL
  obtain ⟨dx, e2⟩ := h.ob
  exact ne_of e e2 (by intro z; cases z)
theorem SA.np_fo (h : SA C CF H a s fq tk) : a.fo ≠ a.p := by
  obtain ⟨as, e, _⟩ := h.fo
  obtain ⟨dx, e2⟩ := h.ob
  exact ne_of e e2 (by intro z; cases z)
theorem SA.np_lv (h : SA C CF H a s fq tk) : a.lv ≠ a.p := by
  obtain ⟨dx, e2⟩ := h.ob
  exact ne_of h.lv e2 (by intro z; cases z)
theorem SA.tupKp (h : SA C CF H a s fq tk) (k : Kp H H' a) : ∀ b xs, H b = some (.tup xs) → H' b = some (.tup xs) := fun b xs e => by
  obtain ⟨dx, e1⟩ := h.ob
  obtain ⟨ys, e2⟩ := h.frL
  obtain ⟨as, e3, _⟩ := h.fo
  exact k b _ e (ne_of e e1 (by intro z; cases z)) (ne_of e e2 (by intro z; cases z)) (ne_of e e3 (by intro z; cases z))
theorem SA.move (h : SA C CF H a s fq tk) (k : Kp H H' a) (ob' : ∃ dx, H' a.p = some (.ins C dx (sf a s'))) (fr' : FrAt CF H' a.fr fq')
    (fo' : ∃ as : List Addr, H' a.fo = some (.lst (as.map V.ref)) ∧ TokAt H' as tk') : SA C CF H' a s' fq' tk' :=
  ⟨ob', k _ _ h.lv h.np_lv h.n1 h.n2, h.tupKp k _ _ h.t0, fr', fo', h.n1, h.n2, h.n3⟩
/-- a frame's object and the scanner stand apart -/
theorem ff_sf {dF dx : Addr} {z : Int} {q : Str} : HO.ins CF dF (ff z q) ≠ HO.ins C dx (sf a s) := by
  intro e
  injection e with _ _ e3
  have e4 : (3 : Nat) = 11 := congrArg List.length e3
  omega
theorem SA.frMove (h : SA C CF H a s fq tk) (k : Kp H H' a) (e : H' a.fr = H a.fr) : FrAt CF H' a.fr fq := by
  have q := h.fr
  obtain ⟨dx, e1⟩ := h.ob
  obtain ⟨ys, e2⟩ := h.frL
  obtain ⟨as, e3, _⟩ := h.fo
  cases fq with
  | none => exact e.trans q
  | some z =>
    obtain ⟨F, dF, q1, q2⟩ := q
    exact ⟨F, dF, e.trans q1, k F _ q2 (ne_of q2 e1 ff_sf) (ne_of q2 e2 (by intro z; cases z)) (ne_of q2 e3 (by intro z; cases z))⟩
theorem SA.foMove (h : SA C CF H a s fq tk) (k : Kp H H' a) (e : H' a.fo = H a.fo) : ∃ as : List Addr, H' a.fo = some (.lst (as.map V.ref)) ∧ TokAt H' as tk := by
  obtain ⟨as, e3, t⟩ := h.fo
  exact ⟨as, e.trans e3, t.mono (h.tupKp k)⟩
/-- a field is stored -/
theorem SA.fld (h : SA C CF H a s fq tk) {dx : Addr} (s' : S) : SA C CF (upd H a.p (.ins C dx (sf a s'))) a s' fq tk :=
  h.move Kp.p ⟨dx, upd_same⟩ (h.frMove Kp.p (upd_ne h.np_fr)) (h.foMove Kp.p (upd_ne h.np_fo))
/-- a new object -/
theorem SA.new (h : SA C CF H a s fq tk) {b : Addr} {o : HO} (hb : H b = none) : SA C CF (upd H b o) a s fq tk := by
  obtain ⟨dx, e1⟩ := h.ob
  obtain ⟨ys, e2⟩ := h.frL
  obtain ⟨as, e3, _⟩ := h.fo
  exact h.move (Kp.new hb) ⟨dx, by rw [upd_ne (ne_of_none e1 hb)]; exact e1⟩ (h.frMove (Kp.new hb) (upd_ne (ne_of_none e2 hb))) (h.foMove (Kp.new hb) (upd_ne (ne_of_none e3 hb)))
theorem SA.same (h : SA C CF H a s fq tk) (k : Same H H') : SA C CF H' a s fq tk := by
  obtain ⟨dx, e1⟩ := h.ob
  obtain ⟨ys, e2⟩ := h.frL
  obtain ⟨as, e3, t⟩ := h.fo
  exact h.move (Kp.same k) ⟨dx, k _ _ e1⟩ (h.frMove (Kp.same k) (by rw [e2]; exact k _ _ e2)) (h.foMove (Kp.same k) (by rw [e3]; exact k _ _ e3))
/-- a token is put behind -/
theorem SA.tok (h : SA C CF H a s fq tk) {as : List Addr} {b : Addr} {t : Tk} (e : H a.fo = some (.lst (as.map V.ref))) (hb : H b = some (.tup [.str t.1, .str t.2.1, .int (t.2.2 : Int)])) :
    SA C CF (upd H a.fo (.lst (as.map V.ref ++ [.ref b]))) a s fq (tk ++ [t]) := by
  obtain ⟨dx, e1⟩ := h.ob
  obtain ⟨as', e3, q⟩ := h.fo
  have ea : as' = as := by
    rw [e3] at e
    have e4 := Option.some.inj e
    injection e4 with e5
    exact (List.map_inj_right (f := V.ref) fun x y z => by injection z).mp e5
  subst ea
  refine h.move Kp.fos ⟨dx, by rw [upd_ne h.np_fo.symm]; exact e1⟩ (h.frMove Kp.fos (upd_ne h.n3)) ⟨as' ++ [b], ?_, ?_⟩
  · rw [upd_same, List.map_append]
    rfl
  · exact (q.app hb).mono (h.tupKp Kp.fos)
/-- the frames get a formatted string's; lose it -/
theorem SA.push (h : SA C CF H a s none tk) {F dF : Addr} {q : Str} (hF : H F = some (.ins CF dF (ff 0 q))) : SA C CF (upd H a.fr (.lst [.ref F])) a s (some q) tk := by
  obtain ⟨dx, e1⟩ := h.ob
  obtain ⟨ys, e2⟩ := h.frL
  refine h.move Kp.frs ⟨dx, by rw [upd_ne h.np_fr.symm]; exact e1⟩ ⟨F, dF, upd_same, ?_⟩ (h.foMove Kp.frs (upd_ne h.n3.symm))
  rw [upd_ne (ne_of hF e2 (by intro z; cases z))]
  exact hF
theorem SA.pop (h : SA C CF H a s fq tk) : SA C CF (upd H a.fr (.lst [])) a s none tk := by
  obtain ⟨dx, e1⟩ := h.ob
  exact h.move Kp.frs ⟨dx, by rw [upd_ne h.np_fr.symm]; exact e1⟩ upd_same (h.foMove Kp.frs (upd_ne h.n3.symm))
end
/-- what a method promises: behind it the scanner stands so, all else as it was -/
def Post (C CF : Addr) (a : Ad) (H : Hp) (s' : S) (fq' : Option Str) (tk' : List Tk) (Q : VK) (v : V) : Prop := ∀ H', SA C CF H' a s' fq' tk' → Kp H H' a → Q v H'
/-- the text from i on up to j -/
def cut (z : Str) (i j : Nat) : Str := cutS z (some (i : Int)) (some (j : Int))
theorem tl_cut {z : Str} {i j : Nat} (hj : j ≤ z.length) : tl (cut z i j) = ((tl z).drop i).take (j - i) := by
  show ((z.cps.toList.drop (HT.sIx z.length 0 (some (i : Int)))).take (HT.sIx z.length z.length (some (j : Int)) - HT.sIx z.length 0 (some (i : Int)))) = _
  rw [HT.sIx_nat, HT.sIx_nat, Nat.min_eq_left hj]
  by_cases hi : i ≤ z.length
  · rw [Nat.min_eq_left hi]
  · rw [Nat.min_eq_right (by omega), List.drop_eq_nil_of_le (by rw [len_tl]; exact Nat.le_refl _), List.drop_eq_nil_of_le (by rw [← len_tl]; omega), List.take_nil, List.take_nil]
end
local macro_rules | `(tactic| wtm_at "sz") => `(tactic| first | assumption | (exact szL (by omega)) | (dsimp only; first | assumption | (exact szL (by omega))) | omega)
local macro_rules | `(tactic| wtm_at "na") => `(tactic| first
  | (with_reducible exact Top.n_Scanner_text (by assumption)) | (with_reducible exact Top.n_Scanner_at (by assumption)) | (with_reducible exact Top.n_Scanner_levels (by assumption)) | (with_reducible exact Top.n_Scanner_frames (by assumption))
  | (with_reducible exact Top.n_Scanner_found (by assumption)) | (with_reducible exact Top.n_Scanner_failure (by assumption)) | (with_reducible exact Top.n_Scanner_is_fresh (by assumption)) | (with_reducible exact Top.n_Scanner_is_begun (by assumption))
  | (with_reducible exact Top.n_Scanner_is_final (by assumption)) | (with_reducible exact Top.n_Scanner_is_over (by assumption)) | (with_reducible exact Top.n_Scanner_join (by assumption))
  | (with_reducible exact Top.n_Frame_mark (by assumption)) | (with_reducible exact Top.n_Frame_at (by assumption)) | (with_reducible exact Top.n_Frame_quote (by assumption)))
local macro_rules | `(tactic| wtm_at "cl") => `(tactic| first | (with_reducible exact Top.c_Scanner (by assumption)) | (with_reducible exact Top.c_Frame (by assumption)))
local macro_rules | `(tactic| wtm_at "lk") => `(tactic| first
  | (with_reducible exact sf_text _ _) | (with_reducible exact sf_at _ _) | (with_reducible exact sf_levels _ _) | (with_reducible exact sf_frames _ _) | (with_reducible exact sf_found _ _) | (with_reducible exact sf_failure _ _)
  | (with_reducible exact sf_fresh _ _) | (with_reducible exact sf_begun _ _) | (with_reducible exact sf_final _ _) | (with_reducible exact sf_over _ _) | (with_reducible exact sf_join _ _)
  | (with_reducible exact ff_mark _ _) | (with_reducible exact ff_at _ _) | (with_reducible exact ff_quote _ _))
local macro_rules | `(tactic| wtm_at "sw") => `(tactic| first
  | (with_reducible exact sw_text _ _ _) | (with_reducible exact sw_at _ _ _) | (with_reducible exact sw_fresh _ _ _) | (with_reducible exact sw_begun _ _ _) | (with_reducible exact sw_final _ _ _) | (with_reducible exact sw_over _ _ _) | (with_reducible exact sw_join _ _ _))
local macro_rules | `(tactic| wtm_at "sn") => `(tactic| first
  | (with_reducible exact sn_add _ _) | (with_reducible exact sn_add_lexeme _ _) | (with_reducible exact sn_finish _ _) | (with_reducible exact sn_comment_end _ _) | (with_reducible exact sn_read_comment _ _) | (with_reducible exact sn_read_line_feed _ _)
  | (with_reducible exact sn_read_last_gap _ _) | (with_reducible exact sn_read_empty_line _ _) | (with_reducible exact sn_compare_indentation _ _) | (with_reducible exact sn_read_indentation _ _) | (with_reducible exact sn_read_string _ _)
  | (with_reducible exact sn_begin_string _ _) | (with_reducible exact sn_read_word _ _) | (with_reducible exact sn_read_operator _ _) | (with_reducible exact sn_read_lexeme _ _) | (with_reducible exact sn_add_part _ _) | (with_reducible exact sn_part_end _ _)
  | (with_reducible exact sn_read_part _ _) | (with_reducible exact sn_read_step _ _) | (with_reducible exact sn_read_on _ _) | (with_reducible exact sn_feed _ _) | (with_reducible exact sn_close _ _))
local macro_rules | `(tactic| wtm_at "g") => `(tactic| first
  | (with_reducible refine g_seq ?_) | (with_reducible refine g_asg ?_) | (with_reducible refine g_name ?_) | (with_reducible refine g_if ?_) | (with_reducible refine g_ret ?_) | (with_reducible refine g_drop ?_) | (with_reducible refine g_next ?_) | (with_reducible refine g_retN ?_)
  | ((with_reducible refine' g_var ?h ?_); (case h => rfl))
  | (with_reducible refine g_c ?_) | (with_reducible refine g_op ?_) | (with_reducible refine g_un ?_) | (with_reducible refine g_rU ?_) | (with_reducible refine g_I0 ?_)
  | ((with_reducible refine' g_aug ?h ?_); (case h => rfl)) | (with_reducible refine g_ipI ?_)
  | (with_reducible refine g_fld ?_)
  | ((with_reducible refine' g_fldAt ?h ?c ?n ?l ?_); (case h => (with_reducible assumption)); (case c => wtm_at "cl"); (case n => wtm_at "na"); (case l => wtm_at "lk"))
  | (with_reducible refine g_sFld ?_)
  | ((with_reducible refine' g_eq ?h ?_); (case h => rfl)) | ((with_reducible refine' g_ne ?h ?_); (case h => rfl))
  | (with_reducible refine g_inS ?_) | (with_reducible refine g_notInS ?_)
  | (with_reducible refine g_tup ?_) | (with_reducible refine g_lst ?_) | (with_reducible refine g_nil ?_) | (with_reducible refine g_cons ?_) | (with_reducible refine g_cb ?_) | (with_reducible refine g_bm ?_)
  | ((with_reducible refine' g_lnS ?h ?_); (case h => wtm_at "sz"))
  | (with_reducible refine g_sl ?_) | (with_reducible refine g_part ?_) | (with_reducible refine g_noPart ?_) | (with_reducible refine g_exI ?_)
  | ((with_reducible refine' g_slS ?h ?_); (case h => wtm_at "sz"))
  | ((with_reducible refine' g_ixS ?h ?i ?_); (case h => wtm_at "sz"); (case i => (with_reducible assumption)))
  | (with_reducible refine g_ifE ?_) | (with_reducible refine g_test ?_) | (with_reducible refine g_tB ?_) | (with_reducible refine g_isB ?_) | (with_reducible refine g_isBQ ?_)
  | (with_reducible refine g_and ?_) | (with_reducible refine g_or ?_) | (with_reducible refine g_not ?_) | (with_reducible refine g_orV ?_) | (with_reducible refine g_andV ?_) | (with_reducible refine g_notV ?_) | (with_reducible refine g_exB ?_)
  | (with_reducible refine g_make ?_) | (with_reducible refine g_par ?_) | (with_reducible refine g_par3 ?_) | (with_reducible refine g_two ?_) | (with_reducible refine g_three ?_)
  | (with_reducible refine g_m1 ?_) | (with_reducible refine g_m0 ?_) | (with_reducible refine g_isS ?_) | (with_reducible refine g_sw ?_)
  | (with_reducible refine g_yes ?_) | (with_reducible refine g_call ?_) | (with_reducible refine g_meth ?_)
  | ((with_reducible refine' g_methAt ?h ?l ?_); (case h => (with_reducible assumption)); (case l => wtm_at "sn")))
section
variable {K : PySem.W.Frag} {P : Program} {w : World} {base : Heap} {mg : Str → Option Value}
def isW (c : Nat) : Bool := decide (c ∈ tl "abcdefghijklmnopqrstuvwxyzABCDEFGHIJKLMNOPQRSTUVWXYZ_") || decide (c ∈ tl "0123456789")
def sp_is_word_character : Sp := fun vs H Q _ => ∃ c : Nat, vs = [.str ⟨#[c]⟩] ∧ Q (.bl (isW c)) H
theorem ok_is_word_character (T : Top K mg) : Ok P w K mg base 1 "is_word_character" p_is_word_character sp_is_word_character := by
  refine mkOk T.d_is_word_character T.g_is_word_character sc_is_word_character b_is_word_character (fun vs H Q E h => ?_) (fun f cdv A outer s H vs Q E hr h => ?_)
  · obtain ⟨c, rfl, _⟩ := h
    rfl
  obtain ⟨c, rfl, q⟩ := h
  refine ⟨_, (pss_one (ps_ret (pe_or (pe_cmpR op_inS (pv 0) (pgS T.s_LETTERS rfl) rfl) (pe_one (pe_cmpR op_inS (pv 0) (pgS T.s_DIGITS rfl) rfl))))), ?_⟩
  try dsimp only [cxOf]
  refine g_start (σ := [some _]) rfl ?_
  unfold isW at q
  repeat wtm_at "g"
  refine g_if2 (fun h => ?_) (fun h => ?_)
  · rw [h] at q
    exact q
  · rw [h] at q
    repeat wtm_at "g"
    exact q
/-- the end of the name at n -/
def nameEnd (l : List Nat) (n : Nat) : Nat := n + ((l.drop n).takeWhile isW).length
theorem nameEnd_go {l : List Nat} {n c : Nat} (h : l[n]? = some c) (hc : isW c = true) : nameEnd l n = nameEnd l (n + 1) := by
  unfold nameEnd
  obtain ⟨hn, e⟩ := List.getElem?_eq_some_iff.mp h
  rw [List.drop_eq_getElem_cons hn, e, List.takeWhile_cons_of_pos hc, List.length_cons]
  omega
theorem nameEnd_stop {l : List Nat} {n c : Nat} (h : l[n]? = some c) (hc : isW c = false) : nameEnd l n = n := by
  unfold nameEnd
  obtain ⟨hn, e⟩ := List.getElem?_eq_some_iff.mp h
  rw [List.drop_eq_getElem_cons hn, e, List.takeWhile_cons_of_neg (by rw [hc]; exact Bool.false_ne_true)]
  rfl
theorem nameEnd_end {l : List Nat} {n : Nat} (h : l.length ≤ n) : nameEnd l n = n := by
  unfold nameEnd
  rw [List.drop_eq_nil_of_le h]
  rfl
theorem at_lt {z : Str} {n : Nat} (h : n < z.length) : ∃ c, (tl z)[n]? = some c := ⟨(tl z)[n]'(by rw [← len_tl]; exact h), List.getElem?_eq_getElem _⟩
def sp_name_end : Sp := fun vs H Q _ => ∃ (z : Str) (n : Nat), vs = [.str z, .int (n : Int)] ∧ z.length ≤ 5000 ∧ n ≤ z.length ∧ Q (.int (nameEnd (tl z) n : Nat)) H
theorem ok_name_end (T : Top K mg) (O_is_word_character : Ok P w K mg base 1 "is_word_character" p_is_word_character sp_is_word_character) : Ok P w K mg base 2 "name_end" p_name_end sp_name_end := by
  refine mkOk T.d_name_end T.g_name_end sc_name_end b_name_end (fun vs H Q E h => ?_) (fun f cdv A outer s H vs Q E hr h => ?_)
  · obtain ⟨z, n, rfl, _⟩ := h
    rfl
  obtain ⟨z, n, rfl, hz, hn, q⟩ := h
  refine ⟨_, (pss_cons (ps_while PassesOwn.never (PW.pt (pw_and (pt_cmpR op_lt (pv 1) (pe_callB cr_lnS rfl T.f_len PySem.boot_len (pa_cons (pv 0) pa_nil)) (nomark _)) (pw_and1 (pt_val (pc O_is_word_character hr rfl (pa_cons (pe_ix ix_str (pv 0) (pv 1) (fun _ _ => rfl)) pa_nil)))))) (pss_one (ps_aug (i := 1) sc_name_end.nd rfl (Or.inl rfl) pe_int ip_add))) (pss_one (ps_ret (pv 1)))), ?_⟩
  try dsimp only [cxOf]
  refine g_start (σ := [some _, some _]) rfl ?_
  repeat wtm_at "g"
  refine ⟨fun m σ H' => H' = H ∧ ∃ i : Nat, σ = [some (.str z), some (.int (i : Int))] ∧ i ≤ z.length ∧ m = z.length - i ∧ nameEnd (tl z) i = nameEnd (tl z) n, ⟨_, rfl, n, rfl, hn, rfl, rfl⟩, ?_⟩
  rintro m σ H' ⟨rfl, i, rfl, hi, rfl, e⟩
  repeat wtm_at "g"
  refine g_if2 (fun h => ?_) (fun h => ?_)
  · have hlt : i < z.length := by
      have := of_decide_eq_true h
      omega
    obtain ⟨c, hc⟩ := at_lt hlt
    repeat wtm_at "g"
    refine ⟨c, rfl, ?_⟩
    repeat wtm_at "g"
    refine g_if2 (fun hw => ?_) (fun hw => ?_)
    · refine ⟨_, fun σ' H'' h' => ⟨z.length - (i + 1), by omega, h'⟩, ?_⟩
      repeat wtm_at "g"
      exact ⟨rfl, i + 1, rfl, hlt, rfl, by rw [← e, nameEnd_go hc hw]⟩
    · repeat wtm_at "g"
      rw [← e, nameEnd_stop hc hw] at q
      exact q
  · have hge : z.length ≤ i := by
      have := of_decide_eq_false h
      omega
    refine g_ifF rfl ?_
    repeat wtm_at "g"
    rw [← e, nameEnd_end (by rw [← len_tl]; exact hge)] at q
    exact q
end
section
variable {K : PySem.W.Frag} {P : Program} {w : World} {base : Heap} {mg : Str → Option Value}
/-! the quote -/
theorem rep3 (c : Nat) : repS ⟨#[c]⟩ 3 = ⟨#[c, c, c]⟩ := ext_tl (by rw [tl_repS]; rfl)
theorem rep2 (c : Nat) : repS ⟨#[c]⟩ 2 = ⟨#[c, c]⟩ := ext_tl (by rw [tl_repS]; rfl)
theorem one_len (c : Nat) : (⟨#[c]⟩ : Str).length ≤ 1000 := by show 1 ≤ 1000; decide
theorem cut_eq (z : Str) (i j : Nat) : cutS z (some (i : Int)) (some (j : Int)) = cut z i j := rfl
theorem cut_add (z : Str) (i k : Nat) : cutS z (some (i : Int)) (some ((i : Int) + (k : Int))) = cut z i (i + k) := by
  unfold cut
  rw [Int.natCast_add]
theorem tl_cutA {z : Str} {i j : Nat} : tl (cut z i j) = ((tl z).drop i).take (min j z.length - i) := by
  show ((z.cps.toList.drop (HT.sIx z.length 0 (some (i : Int)))).take (HT.sIx z.length z.length (some (j : Int)) - HT.sIx z.length 0 (some (i : Int)))) = _
  rw [HT.sIx_nat, HT.sIx_nat]
  by_cases hi : i ≤ z.length
  · rw [Nat.min_eq_left hi]
  · rw [Nat.min_eq_right (show z.length ≤ i by omega), List.drop_eq_nil_of_le (show z.cps.toList.length ≤ z.length by rw [len_tl]; exact Nat.le_refl _), List.drop_eq_nil_of_le (show (tl z).length ≤ i by rw [← len_tl]; omega), List.take_nil, List.take_nil]
/-- a window of k signs at i -/
theorem tl_win {z : Str} {i k : Nat} : tl (cut z i (i + k)) = ((tl z).drop i).take k := by
  rw [tl_cutA]
  by_cases h : i + k ≤ z.length
  · rw [Nat.min_eq_left h]
    congr 1
    omega
  · rw [Nat.min_eq_right (by omega), List.take_of_length_le (by rw [List.length_drop, ← len_tl]; exact Nat.le_refl _), List.take_of_length_le (by rw [List.length_drop, ← len_tl]; omega)]
theorem tl_from {z : Str} {i : Nat} : tl (cutS z (some (i : Int)) none) = (tl z).drop i := by
  show ((z.cps.toList.drop (HT.sIx z.length 0 (some (i : Int)))).take (HT.sIx z.length z.length none - HT.sIx z.length 0 (some (i : Int)))) = _
  rw [HT.sIx_nat, HT.sIx_none]
  by_cases hi : i ≤ z.length
  · rw [Nat.min_eq_left hi, List.take_of_length_le (by rw [List.length_drop, ← len_tl]; exact Nat.le_refl _)]
  · rw [Nat.min_eq_right (show z.length ≤ i by omega), List.drop_eq_nil_of_le (show z.cps.toList.length ≤ z.length by rw [len_tl]; exact Nat.le_refl _), List.drop_eq_nil_of_le (show (tl z).length ≤ i by rw [← len_tl]; omega), List.take_nil]
/-- the quote that begins at n with the sign c -/
inductive QuoteAt (z : Str) (n c : Nat) : Str → Prop
  | three : ((tl z).drop n).take 3 = [c, c, c] → QuoteAt z n c ⟨#[c, c, c]⟩
  | one : ((tl z).drop n).take 3 ≠ [c, c, c] → n + 1 ≠ z.length → (tl z).drop n ≠ [c, c] → QuoteAt z n c ⟨#[c]⟩
theorem QuoteAt.len {z y : Str} {n c : Nat} (h : QuoteAt z n c y) : 1 ≤ y.length ∧ y.length ≤ 3 := by
  cases h with
  | three _ => exact ⟨by show 1 ≤ 3; decide, by show 3 ≤ 3; decide⟩
  | one _ _ _ => exact ⟨by show 1 ≤ 1; decide, by show 1 ≤ 3; decide⟩
def sp_quote_at : Sp := fun vs H Q _ => ∃ (z : Str) (n c : Nat) (y : Str), vs = [.str z, .int (n : Int), .bl false] ∧ z.length ≤ 5000 ∧ (tl z)[n]? = some c ∧ QuoteAt z n c y ∧ Q (.str y) H
theorem ok_quote_at (T : Top K mg) : Ok P w K mg base 1 "quote_at" p_quote_at sp_quote_at := by
  refine mkOk T.d_quote_at T.g_quote_at sc_quote_at b_quote_at (fun vs H Q E h => ?_) (fun f cdv A outer s H vs Q E hr h => ?_)
  · obtain ⟨z, n, c, y, rfl, _⟩ := h
    rfl
  obtain ⟨z, n, c, y, rfl, hz, hc, hQ, q⟩ := h
  refine ⟨_, (pss_cons (ps_set (i := 3) sc_quote_at.nd rfl (Or.inl rfl) (pe_ix ix_str (pv 0) (pv 1) (fun _ _ => rfl))) (pss_cons (ps_if (pt_cmpR op_eq (pe_slice sl_str (pv 0) (po_some (pv 1)) (po_some (pe_op op_add (pv 1) pe_int))) (pe_op op_mulS (pv 3) pe_int) (nomark _)) (pss_one (ps_ret (pe_op op_mulS (pv 3) pe_int))) pss_nil) (pss_cons (ps_if (PW.pt (pw_and (pt_not (pt_val (pv 2))) (pw_and1 (PW.pt (pw_or (pt_cmpR op_eq (pe_op op_add (pv 1) pe_int) (pe_callB cr_lnS rfl T.f_len PySem.boot_len (pa_cons (pv 0) pa_nil)) (nomark _)) (pw_or1 (pt_cmpR op_eq (pe_slice sl_str (pv 0) (po_some (pv 1)) po_none) (pe_op op_mulS (pv 3) pe_int) (nomark _)))))))) (pss_one (ps_ret pe_str)) pss_nil) (pss_one (ps_ret (pv 3)))))), ?_⟩
  try dsimp only [cxOf]
  refine g_start (σ := [some _, some _, some _, none]) rfl ?_
  repeat wtm_at "g"
  refine g_mulS (n := 3) (by decide) (one_len c) ?_
  repeat wtm_at "g"
  rw [rep3, show ((n : Int) + 3) = (n : Int) + ((3 : Nat) : Int) from rfl, cut_add]
  rcases hQ with h3 | ⟨h3, h1, h2⟩
  · have e : cut z n (n + 3) = ⟨#[c, c, c]⟩ := ext_tl (tl_win.trans h3)
    refine g_ifT (decide_eq_true (by rw [e])) ?_
    repeat wtm_at "g"
    refine g_mulS (n := 3) (by decide) (one_len c) ?_
    rw [rep3]
    exact q
  · have e : cut z n (n + 3) ≠ ⟨#[c, c, c]⟩ := fun e => h3 (by rw [← tl_win, e])
    refine g_ifF (decide_eq_false fun z => e (by injection z)) ?_
    repeat wtm_at "g"
    refine g_ifT rfl ?_
    repeat wtm_at "g"
    refine g_ifF (decide_eq_false fun z => ?_) ?_
    · injection z with z
      omega
    repeat wtm_at "g"
    refine g_mulS (n := 2) (by decide) (one_len c) ?_
    rw [rep2]
    repeat wtm_at "g"
    refine g_ifF (decide_eq_false fun z => h2 ?_) ?_
    · injection z with z
      rw [← tl_from, z]
    repeat wtm_at "g"
    exact q
/-! the end of a plain string -/
/-- from n on the signs up to k hold no end of a string with quote q; at k it stands -/
structure StrEnd (l q : List Nat) (n k : Nat) : Prop where
  le : n ≤ k
  lt : k < l.length
  free : ∀ i, n ≤ i → i < k → l[i]? ≠ some 92 ∧ (l.drop i).take q.length ≠ q ∧ ¬ (l[i]? = some 10 ∧ q.length = 1)
  no : l[k]? ≠ some 92
  at_ : (l.drop k).take q.length = q
def sp_string_end : Sp := fun vs H Q _ => ∃ (z q : Str) (n k : Nat), vs = [.str z, .int (n : Int), .str q, .bl false] ∧ z.length ≤ 5000 ∧ q.length ≤ 3 ∧ StrEnd (tl z) (tl q) n k ∧ Q (.int ((k + q.length : Nat) : Int)) H
theorem sg1 {c d : Nat} (h : c ≠ d) : decide (V.str ⟨#[c]⟩ = V.str ⟨#[d]⟩) = false := decide_eq_false fun e => by
  injection e with e
  injection e with e
  have e2 : [c] = [d] := congrArg Array.toList e
  exact h (List.cons.inj e2).1
theorem sg2 (c : Nat) : decide (V.str ⟨#[c]⟩ = V.str ⟨#[c]⟩) = true := decide_eq_true rfl
theorem lit1 (c : Nat) {x : Str} (h : tl x = [c]) : x = ⟨#[c]⟩ := ext_tl h
theorem ok_string_end (T : Top K mg) : Ok P w K mg base 1 "string_end" p_string_end sp_string_end := by
  refine mkOk T.d_string_end T.g_string_end sc_string_end b_string_end (fun vs H Q E h => ?_) (fun f cdv A outer s H vs Q E hr h => ?_)
  · obtain ⟨z, q, n, k, rfl, _⟩ := h
    rfl
  obtain ⟨z, y, n, k, rfl, hz, hy, hE, q⟩ := h
  refine ⟨_, (pss_cons (ps_while PassesOwn.never (pt_cmpR op_lt (pv 1) (pe_callB cr_lnS rfl T.f_len PySem.boot_len (pa_cons (pv 0) pa_nil)) (nomark _)) (pss_one (ps_if (pt_cmpR op_eq (pe_ix ix_str (pv 0) (pv 1) (fun _ _ => rfl)) pe_str (nomark _)) (pss_one (ps_aug (i := 1) sc_string_end.nd rfl (Or.inl rfl) pe_int ip_add)) (pss_one (ps_if (pt_cmpR op_eq (pe_slice sl_str (pv 0) (po_some (pv 1)) (po_some (pe_op op_add (pv 1) (pe_callB cr_lnS rfl T.f_len PySem.boot_len (pa_cons (pv 2) pa_nil))))) (pv 2) (nomark _)) (pss_one (ps_ret (pe_op op_add (pv 1) (pe_callB cr_lnS rfl T.f_len PySem.boot_len (pa_cons (pv 2) pa_nil))))) (pss_one (ps_if (PW.pt (pw_and (pt_cmpR op_eq (pe_ix ix_str (pv 0) (pv 1) (fun _ _ => rfl)) pe_str (nomark _)) (pw_and1 (pt_cmpR op_eq (pe_callB cr_lnS rfl T.f_len PySem.boot_len (pa_cons (pv 2) pa_nil)) pe_int (nomark _))))) (pss_one (ps_ret (pgI T.i_WRONG rfl))) (pss_one (ps_aug (i := 1) sc_string_end.nd rfl (Or.inl rfl) pe_int ip_add))))))))) (pss_one (ps_ret (pe_ifExp (pt_val (pv 3)) (pgI T.i_WRONG rfl) (pgI T.i_MORE rfl))))), ?_⟩
  try dsimp only [cxOf]
  refine g_start (σ := [some _, some _, some _, some _]) rfl ?_
  repeat wtm_at "g"
  refine ⟨fun m σ H' => H' = H ∧ ∃ i : Nat, σ = [some (.str z), some (.int (i : Int)), some (.str y), some (.bl false)] ∧ n ≤ i ∧ i ≤ k ∧ m = k - i, ⟨_, rfl, n, rfl, Nat.le_refl _, hE.le, rfl⟩, ?_⟩
  rintro m σ H' ⟨rfl, i, rfl, h1, h2, rfl⟩
  have hlt := hE.lt
  rw [← len_tl] at hlt
  repeat wtm_at "g"
  refine g_ifT (decide_eq_true (by omega)) ?_
  obtain ⟨c, hc⟩ := at_lt (show i < z.length by omega)
  have hc92 : c ≠ 92 := by
    intro e
    rcases Nat.lt_or_ge i k with h3 | h3
    · exact (hE.free i h1 h3).1 (by rw [hc, e])
    · have e2 : i = k := by omega
      exact hE.no (by rw [← e2, hc, e])
  refine ⟨fun σ' H'' => i < k ∧ H'' = H' ∧ ∃ j : Nat, σ' = [some (.str z), some (.int (j : Int)), some (.str y), some (.bl false)] ∧ n ≤ j ∧ j ≤ k ∧ k - (i + 1) = k - j, fun σ' H'' h' => ⟨k - (i + 1), by omega, h'.2⟩, ?_⟩
  · repeat wtm_at "g"
    refine g_ifF ?_ ?_
    · rw [lit1 92 (x := "\\") (by decide +kernel)]
      exact sg1 hc92
    repeat wtm_at "g"
    rw [cut_add]
    have hw : tl (cut z i (i + y.length)) = ((tl z).drop i).take (tl y).length := by
      rw [tl_win, len_tl y]
    rcases Nat.lt_or_ge i k with h3 | h3
    · obtain ⟨_, f2, f3⟩ := hE.free i h1 h3
      refine g_ifF (decide_eq_false fun e => f2 ?_) ?_
      · injection e with e
        rw [← hw, e]
      repeat wtm_at "g"
      rw [lit1 10 (x := "\n") (by decide +kernel)]
      refine g_if2 (fun h4 => ?_) (fun h4 => ?_)
      · repeat wtm_at "g"
        have ec : c = 10 := by
          have e1 := of_decide_eq_true h4
          injection e1 with e1
          injection e1 with e1
          have e2 : [c] = [10] := congrArg Array.toList e1
          exact (List.cons.inj e2).1
        refine g_ifF (decide_eq_false fun e => f3 ⟨by rw [hc, ec], ?_⟩) ?_
        · injection e with e
          have : (y.length : Int) = ((1 : Nat) : Int) := e
          rw [← len_tl]
          omega
        repeat wtm_at "g"
        exact ⟨h3, rfl, i + 1, rfl, by omega, by omega, rfl⟩
      · refine g_ifF rfl ?_
        repeat wtm_at "g"
        exact ⟨h3, rfl, i + 1, rfl, by omega, by omega, rfl⟩
    · have e2 : i = k := by omega
      subst e2
      refine g_ifT (decide_eq_true (congrArg V.str (ext_tl (hw.trans hE.at_)))) ?_
      repeat wtm_at "g"
      exact q
end
section
variable {K : PySem.W.Frag} {P : Program} {w : World} {base : Heap} {mg : Str → Option Value}
theorem ops_len : ∀ sg ∈ l_OPERATORS, sg.length ≤ 3 := by decide +kernel
theorem ops_at {i : Nat} {x : V} (h : (l_OPERATORS.map V.str)[i]? = some x) : ∃ sg, l_OPERATORS[i]? = some sg ∧ x = .str sg ∧ sg.length ≤ 3 := by
  rw [List.getElem?_map] at h
  cases e : l_OPERATORS[i]? with
  | none =>
    rw [e] at h
    cases h
  | some sg =>
    rw [e] at h
    exact ⟨sg, rfl, (Option.some.inj h).symm, ops_len sg (List.mem_of_getElem? e)⟩
def opMore (rest sg : Str) : Bool := decide ((rest.length : Int) < (sg.length : Int)) && Txt.startswith sg rest
def sp_operator_end : Sp := fun vs H Q _ => ∃ (z : Str) (n : Nat) (sg : Str), vs = [.str z, .int (n : Int), .bl false] ∧ z.length ≤ 5000 ∧
  l_OPERATORS.any (opMore (cut z n (n + 3))) = false ∧ l_OPERATORS.find? (fun sg => Txt.startswith (cut z n (n + 3)) sg) = some sg ∧ ∀ H', Same H H' → Q (.int ((n + sg.length : Nat) : Int)) H'
theorem cut_len (z : Str) (i j : Nat) : (cut z i j).length ≤ z.length := cutS_length z _ _
theorem ok_operator_end (T : Top K mg) : Ok P w K mg base 1 "operator_end" p_operator_end sp_operator_end := by
  refine mkOk T.d_operator_end T.g_operator_end sc_operator_end b_operator_end (fun vs H Q E h => ?_) (fun f cdv A outer s H vs Q E hr h => ?_)
  · obtain ⟨z, n, sg, rfl, _⟩ := h
    rfl
  obtain ⟨z, n, sg, rfl, hz, h1, h2, q⟩ := h
  refine ⟨_, (pss_cons (ps_set (i := 3) sc_operator_end.nd rfl (Or.inr rfl) (pe_slice sl_str (pv 0) (po_some (pv 1)) (po_some (pe_op op_add (pv 1) pe_int)))) (pss_cons (ps_if (PW.pt (pw_and (pt_not (pt_val (pv 2))) (pw_and1 (pt_val (pe_callB (cr_any rfl) rfl T.f_any (by decide +kernel) (pa_cons (pe_lc (own := [("sign", 4)]) (g := gName 4) rfl sc_operator_end.nd (pi_tup (pgR T.g_OPERATORS rfl)) (blkOk_by (own := [("sign", 4)]) (N := n_operator_end) (sc := defScope s_operator_end) (by decide +kernel)) (fun _ _ _ _ _ => pg_name (i := 4) sc_operator_end.nd rfl (Or.inl rfl)) (fun _ _ _ _ _ => pts_nil) (fun _ _ _ _ _ => (pe_and (pe_cmpR op_lt (pe_callB cr_lnS rfl T.f_len PySem.boot_len (pa_cons (pv 3) pa_nil)) (pe_callB cr_lnS rfl T.f_len PySem.boot_len (pa_cons (pv 4) pa_nil)) (nomark _)) (pe_one (pe_m1 PySem.F.slot_str_startswith PySem.F.type_str_startswith mt_startswith (pv 4) (pv 3)))))) pa_nil)))))) (pss_one (ps_ret (pgI T.i_MORE rfl))) pss_nil) (pss_cons (ps_for PassesOwn.never rfl (pi_tup (pgR T.g_OPERATORS rfl)) (pg_name (i := 4) sc_operator_end.nd rfl (Or.inl rfl)) (pss_one (ps_if (pt_val (pe_m1 PySem.F.slot_str_startswith PySem.F.type_str_startswith mt_startswith (pv 3) (pv 4))) (pss_one (ps_ret (pe_op op_add (pv 1) (pe_callB cr_lnS rfl T.f_len PySem.boot_len (pa_cons (pv 4) pa_nil))))) pss_nil))) (pss_one (ps_ret (pgI T.i_WRONG rfl)))))), ?_⟩
  try dsimp only [cxOf]
  refine g_start (σ := [some _, some _, some _, none, none]) rfl ?_
  repeat wtm_at "g"
  rw [show ((n : Int) + 3) = (n : Int) + ((3 : Nat) : Int) from rfl, cut_add]
  generalize hre : cut z n (n + 3) = re at h1 h2 ⊢
  have hrl : re.length ≤ 5000 := by
    rw [← hre]
    exact Nat.le_trans (cut_len z _ _) hz
  refine g_ifT rfl ?_
  repeat wtm_at "g"
  refine ⟨_, rfl, ⟨_, T.t_OPERATORS H⟩, fun D hD => lc_tup (xs := l_OPERATORS.map V.str) (fun i H' => H' = upd H D (.lst ((l_OPERATORS.take i).map fun g => V.bl (opMore re g)))) rfl (fun i H' _ _ => T.t_OPERATORS H') ?_ ?_⟩
  · rintro i x H' hx rfl
    obtain ⟨g, hg, rfl, hl⟩ := ops_at hx
    repeat wtm_at "g"
    refine ⟨rfl, ?_⟩
    repeat wtm_at "g"
    refine g_ifT rfl ?_
    have e : (l_OPERATORS.take (i + 1)).map (fun g => V.bl (opMore re g)) = (l_OPERATORS.take i).map (fun g => V.bl (opMore re g)) ++ [V.bl (opMore re g)] := by
      rw [List.take_add_one, hg, List.map_append]
      rfl
    have fin : ∃ acc, upd H D (HO.lst ((l_OPERATORS.take i).map fun g => V.bl (opMore re g))) D = some (.lst acc) ∧ acc.length < sizeLine ∧
        upd (upd H D (HO.lst ((l_OPERATORS.take i).map fun g => V.bl (opMore re g)))) D (.lst (acc ++ [V.bl (opMore re g)])) = upd H D (.lst ((l_OPERATORS.take (i + 1)).map fun g => V.bl (opMore re g))) := by
      refine ⟨_, upd_same, ?_, by rw [upd_upd, e]⟩
      rw [List.length_map]
      exact small1000 (Nat.le_trans (by rw [List.length_take]; exact Nat.min_le_right _ _) (by decide +kernel : l_OPERATORS.length ≤ 1000))
    repeat wtm_at "g"
    refine g_if2 (fun h => ?_) (fun h => ?_)
    · have e2 : opMore re g = Txt.startswith g re := by
        unfold opMore
        rw [h, Bool.true_and]
      rw [e2] at fin
      repeat wtm_at "g"
      exact fin
    · have e2 : opMore re g = false := by
        unfold opMore
        rw [h, Bool.false_and]
      rw [e2] at fin
      exact fin
  · rintro H' rfl
    repeat wtm_at "g"
    have e : (l_OPERATORS.take (l_OPERATORS.map V.str).length).map (fun g => V.bl (opMore re g)) = (l_OPERATORS.map (opMore re)).map V.bl := by
      rw [List.length_map, List.take_length, List.map_map]
      rfl
    refine ⟨D, l_OPERATORS.map (opMore re), rfl, SqL.of (by rw [upd_same, e]), ?_⟩
    have e3 : (l_OPERATORS.map (opMore re)).any id = false := by
      rw [List.any_map]
      exact h1
    rw [e3]
    repeat wtm_at "g"
    refine g_ifF rfl ?_
    repeat wtm_at "g"
    have hs : Same H (upd H D (.lst ((l_OPERATORS.take (l_OPERATORS.map V.str).length).map fun g => V.bl (opMore re g)))) := fun b o eb => by
      rw [upd_ne (ne_of_none eb hD)]
      exact eb
    generalize upd H D (.lst ((l_OPERATORS.take (l_OPERATORS.map V.str).length).map fun g => V.bl (opMore re g))) = H1 at hs ⊢
    refine ⟨_, rfl, ⟨_, T.t_OPERATORS H1⟩, for_tup (xs := l_OPERATORS.map V.str) (fun i σ H' => H' = H1 ∧ (∃ v, σ = [some (.str z), some (.int (n : Int)), some (.bl false), some (.str re), v]) ∧ (l_OPERATORS.drop i).find? (fun sg => Txt.startswith re sg) = some sg)
      ⟨rfl, ⟨_, rfl⟩, h2⟩ (fun i σ H' _ _ => T.t_OPERATORS H') ?_ ?_⟩
    · rintro i x σ H' hx ⟨rfl, ⟨v, rfl⟩, hf⟩
      obtain ⟨g, hg, rfl, hl⟩ := ops_at hx
      obtain ⟨hi, eg⟩ := List.getElem?_eq_some_iff.mp hg
      rw [List.drop_eq_getElem_cons hi, eg, List.find?_cons] at hf
      repeat wtm_at "g"
      refine g_if2 (fun h => ?_) (fun h => ?_)
      · rw [h] at hf
        cases Option.some.inj hf
        repeat wtm_at "g"
        rw [Int.natCast_add] at q
        exact q _ hs
      · rw [h] at hf
        repeat wtm_at "g"
        exact ⟨rfl, ⟨_, rfl⟩, hf⟩
    · rintro σ H' ⟨rfl, _, hf⟩
      rw [List.length_map, List.drop_length] at hf
      cases hf
/-! a width: of nothing -/
def sp_width_of : Sp := fun vs H Q _ => ∃ z : Str, vs = [.str z] ∧ tl z = [] ∧ Q (.int 0) H
theorem ok_width_of (T : Top K mg) : Ok P w K mg base 1 "width_of" p_width_of sp_width_of := by
  refine mkOk T.d_width_of T.g_width_of sc_width_of b_width_of (fun vs H Q E h => ?_) (fun f cdv A outer s H vs Q E hr h => ?_)
  · obtain ⟨z, rfl, _⟩ := h
    rfl
  obtain ⟨z, rfl, hz, q⟩ := h
  refine ⟨_, (pss_cons (ps_set (i := 1) sc_width_of.nd rfl (Or.inl rfl) pe_int) (pss_cons (ps_for PassesOwn.never rfl (pi_str (pv 0)) (pg_name (i := 2) sc_width_of.nd rfl (Or.inl rfl)) (pss_one (ps_set (i := 1) sc_width_of.nd rfl (Or.inl rfl) (pe_ifExp (pt_cmpR op_eq (pv 2) pe_str (nomark _)) (pe_op op_mul (pe_op op_add (pe_op op_fdivN (pv 1) (pgI T.i_TAB rfl)) pe_int) (pgI T.i_TAB rfl)) (pe_op op_add (pv 1) pe_int))))) (pss_one (ps_ret (pv 1))))), ?_⟩
  try dsimp only [cxOf]
  refine g_start (σ := [some _, none, none]) rfl ?_
  repeat wtm_at "g"
  refine ⟨_, rfl, z, rfl, for_it (walk_str (z := z)) (fun i σ H' => H' = H ∧ σ = [some (.str z), some (.int 0), none]) ⟨rfl, rfl⟩ (fun _ _ _ _ _ => trivial) ?_ ?_⟩
  · intro i x σ H1 H2 hi
    have : z.cps.size = 0 := by
      show (tl z).length = 0
      rw [hz]
      rfl
    omega
  · rintro σ H' ⟨rfl, rfl⟩
    repeat wtm_at "g"
    exact q
/-! objects made -/
def sp_Frame_init (CF : Addr) : Sp := fun vs H Q _ => ∃ (p dx : Addr) (y : Str), vs = [.ref p, .str "string", .int 0, .str y] ∧ H p = some (.ins CF dx []) ∧
  ∀ H', H' p = some (.ins CF dx (ff 0 y)) → (∀ b o, H b = some o → b ≠ p → H' b = some o) → Q .non H'
theorem ok_Frame_init (T : Top K mg) : OkM P w K mg base 1 "Frame" "__init__" p_Frame_init (sp_Frame_init (He.ga K "Frame")) := by
  refine mkOkM T.d_Frame_init ⟨T.k_Frame.init, T.k_Frame.fn, ?_⟩ T.c_Frame sc_Frame_init b_Frame_init (fun vs H Q E h => ?_) (fun f cdv A outer s H vs Q E hr h => ?_)
  · obtain ⟨fd, F⟩ := T.d_Frame_init
    exact F.kp
  · obtain ⟨p, dx, y, rfl, _⟩ := h
    rfl
  obtain ⟨p, dx, y, rfl, hp, q⟩ := h
  refine ⟨_, (pss_cons (ps_fld (pv 0) (pv 1) rfl) (pss_cons (ps_fld (pv 0) (pv 2) rfl) (pss_one (ps_fld (pv 0) (pv 3) rfl)))), ?_⟩
  try dsimp only [cxOf]
  refine g_start (σ := [some _, some _, some _, some _]) rfl ?_
  repeat wtm_at "g"
  refine g_stAt (fs' := [(("mark" : Str), V.str "string")]) hp T.c_Frame T.n_Frame_mark (by show 0 < 1000; decide) rfl ?_
  repeat wtm_at "g"
  refine g_stAt (fs' := [(("mark" : Str), V.str "string"), (("at" : Str), V.int 0)]) upd_same T.c_Frame T.n_Frame_at (by show 1 < 1000; decide) (by rfl) ?_
  repeat wtm_at "g"
  refine g_stAt (fs' := ff 0 y) upd_same T.c_Frame T.n_Frame_quote (by show 2 < 1000; decide) (by rfl) ?_
  refine q _ upd_same fun b o e hb => ?_
  rw [upd_ne hb]
  rw [upd_ne hb, upd_ne hb]
  exact e
end
section
variable {K : PySem.W.Frag} {P : Program} {w : World} {base : Heap} {mg : Str → Option Value}
section
variable (C CF : Addr)
/-- add(kind, end) -/
def sp_add : Sp := fun vs H Q _ => ∃ (a : Ad) (s : S) (fq : Option Str) (tk : List Tk) (kd : Str) (e : Nat), vs = [.ref a.p, .str kd, .int (e : Int)] ∧ SA C CF H a s fq tk ∧ s.tx.length ≤ 5000 ∧ tk.length ≤ 1000 ∧
  Post C CF a H { s with at_ := e, join := -1 } fq (tk ++ [(kd, cut s.tx s.at_ e, s.at_)]) Q .non
def sp_add_lexeme : Sp := fun vs H Q _ => ∃ (a : Ad) (s : S) (fq : Option Str) (tk : List Tk) (kd : Str) (e : Nat), vs = [.ref a.p, .str kd, .int (e : Int)] ∧ SA C CF H a s fq tk ∧ s.tx.length ≤ 5000 ∧ tk.length ≤ 1000 ∧
  Post C CF a H { s with at_ := e, join := -1, begun := true } fq (tk ++ [(kd, cut s.tx s.at_ e, s.at_)]) Q .non
end
abbrev cS (K : PySem.W.Frag) : Addr := He.ga K "Scanner"
abbrev cF (K : PySem.W.Frag) : Addr := He.ga K "Frame"
theorem ok_add (T : Top K mg) : OkM P w K mg base 1 "Scanner" "add" p_Scanner_add (sp_add (cS K) (cF K)) := by
  refine mkOkM T.d_Scanner_add T.m_add T.c_Scanner sc_Scanner_add b_Scanner_add (fun vs H Q E h => ?_) (fun f cdv A outer s H vs Q E hr h => ?_)
  · obtain ⟨a, s, fq, tk, kd, e, rfl, _⟩ := h
    rfl
  obtain ⟨a, s, fq, tk, kd, e, rfl, h, hz, hl, q⟩ := h
  obtain ⟨dx, e1⟩ := h.ob
  obtain ⟨as, e2, ht⟩ := id h.fo
  refine ⟨_, (pss_cons (ps_expr (pe_bm PySem.F.plainAttrs_list PySem.F.slot_list_append PySem.F.type_list_append mt_append (pe_fld (pv 0) rfl) (pa_cons (pe_tup (pa_cons (pv 1) (pa_cons (pe_slice sl_str (pe_fld (pv 0) rfl) (po_some (pe_fld (pv 0) rfl)) (po_some (pv 2))) (pa_cons (pe_fld (pv 0) rfl) pa_nil)))) pa_nil))) (pss_cons (ps_fld (pv 0) (pv 2) rfl) (pss_one (ps_fld (pv 0) (pe_un un_neg pe_int) rfl)))), ?_⟩
  try dsimp only [cxOf]
  refine g_start (σ := [some _, some _, some _]) rfl ?_
  repeat wtm_at "g"
  refine ⟨.inl ⟨rfl, _, SqL.of e2⟩, ?_⟩
  repeat wtm_at "g"
  rw [cut_eq]
  refine ⟨by show 3 ≤ sizeLine; decide, fun B hB => ?_⟩
  have k1 := h.new (o := .tup [.str kd, .str (cut s.tx s.at_ e), .int (s.at_ : Int)]) hB
  have e3 : upd H B (.tup [.str kd, .str (cut s.tx s.at_ e), .int (s.at_ : Int)]) a.fo = some (.lst (as.map V.ref)) := by
    rw [upd_ne (ne_of_none e2 hB)]
    exact e2
  have k2 := k1.tok (b := B) (t := (kd, cut s.tx s.at_ e, s.at_)) e3 upd_same
  have kp2 : Kp H (upd (upd H B (.tup [.str kd, .str (cut s.tx s.at_ e), .int (s.at_ : Int)])) a.fo (.lst (as.map V.ref ++ [.ref B]))) a := (Kp.new hB).trans Kp.fos
  refine ⟨a.fo, as.map V.ref, .ref B, rfl, rfl, e3, ?_, ?_⟩
  · rw [List.length_map, ht.len]
    exact small1000 hl
  generalize upd (upd H B (.tup [.str kd, .str (cut s.tx s.at_ e), .int (s.at_ : Int)])) a.fo (.lst (as.map V.ref ++ [.ref B])) = H2 at k2 kp2 ⊢
  obtain ⟨dx2, e4⟩ := k2.ob
  repeat wtm_at "g"
  refine g_stAt e4 T.c_Scanner T.n_Scanner_at (sf_len _ _) (sw_at _ _ _) ?_
  repeat wtm_at "g"
  refine g_stAt upd_same T.c_Scanner T.n_Scanner_join (sf_len _ _) (sw_join _ _ _) ?_
  exact q _ ((k2.fld _).fld _) ((kp2.trans Kp.p).trans Kp.p)
theorem ok_add_lexeme (T : Top K mg) (O_add : OkM P w K mg base 1 "Scanner" "add" p_Scanner_add (sp_add (cS K) (cF K))) : OkM P w K mg base 2 "Scanner" "add_lexeme" p_Scanner_add_lexeme (sp_add_lexeme (cS K) (cF K)) := by
  refine mkOkM T.d_Scanner_add_lexeme T.m_add_lexeme T.c_Scanner sc_Scanner_add_lexeme b_Scanner_add_lexeme (fun vs H Q E h => ?_) (fun f cdv A outer s H vs Q E hr h => ?_)
  · obtain ⟨a, s, fq, tk, kd, e, rfl, _⟩ := h
    rfl
  obtain ⟨a, s, fq, tk, kd, e, rfl, h, hz, hl, q⟩ := h
  obtain ⟨dx, e1⟩ := h.ob
  refine ⟨_, (pss_cons (ps_fld (pv 0) pe_bl rfl) (pss_one (ps_expr (pm O_add hr (pv 0) (pa_cons (pv 1) (pa_cons (pv 2) pa_nil)))))), ?_⟩
  try dsimp only [cxOf]
  refine g_start (σ := [some _, some _, some _]) rfl ?_
  repeat wtm_at "g"
  refine g_stAt e1 T.c_Scanner T.n_Scanner_is_begun (sf_len _ _) (sw_begun _ _ _) ?_
  have k1 := h.fld (dx := dx) { s with begun := true }
  repeat wtm_at "g"
  refine g_methAt upd_same (sn_add _ _) ?_
  repeat wtm_at "g"
  exact ⟨a, _, fq, tk, kd, e, rfl, k1, hz, hl, fun H' h' k' => q H' h' (Kp.p.trans k')⟩
end
section
/-! find of a line feed -/
section
open PySem.StrLaws Builtin Builtin.Str
theorem occ_full (x y : Str) (hi : Nat) : ∀ (l : List Nat) (st : Array Nat × Nat), 1 ≤ st.fst.size → (forIn l st (occBody x y hi 1)).run.fst = st.fst
  | [], _, _ => rfl
  | i :: l, st, h => by
    rw [List.forIn_cons]
    unfold occBody
    rw [if_neg (fun q => by have := q.1.1.1; omega)]
    exact occ_full x y hi l _ h
theorem occ_first (x y : Str) (hi : Nat) : ∀ (m lo f k : Nat), f ≤ lo → (∀ i, lo ≤ i → i < lo + m → subAt x y i = false) → lo + m + y.length ≤ hi → subAt x y (lo + m) = true →
    (forIn (List.range' lo (m + 1 + k)) ((#[] : Array Nat), f) (occBody x y hi 1)).run.fst = #[lo + m]
  | 0, lo, f, k, hf, _, h1, h2 => by
    rw [show 0 + 1 + k = k + 1 by omega, List.range'_succ, List.forIn_cons]
    unfold occBody
    rw [if_pos ⟨⟨⟨by show 0 < 1; decide, hf⟩, h1⟩, h2⟩]
    exact occ_full x y hi _ _ (by show 1 ≤ 1; decide)
  | m + 1, lo, f, k, hf, hn, h1, h2 => by
    rw [show m + 1 + 1 + k = (m + 1 + k) + 1 by omega, List.range'_succ, List.forIn_cons]
    unfold occBody
    rw [if_neg (fun q => by
      have e := q.2
      rw [hn lo (Nat.le_refl _) (by omega)] at e
      exact Bool.false_ne_true e)]
    have ih := occ_first x y hi m (lo + 1) f k (by omega) (fun i a b => hn i (by omega) (by omega)) (by omega) (by rw [show lo + 1 + m = lo + (m + 1) by omega]; exact h2)
    rw [show lo + (m + 1) = lo + 1 + m by omega]
    exact ih
/-- at e stands the first line feed from n on -/
def Lf (l : List Nat) (n e : Nat) : Prop := n ≤ e ∧ l[e]? = some 10 ∧ ∀ i, n ≤ i → i < e → l[i]? ≠ some 10
theorem sub_one {z : Str} {c i : Nat} : subAt z ⟨#[c]⟩ i = true ↔ (tl z)[i]? = some c := by
  rw [subAt_eq]
  show ((tl z).drop i).take 1 == [c] ↔ _
  rw [beq_iff_eq]
  cases h : (tl z)[i]? with
  | none =>
    rw [List.drop_eq_nil_of_le (List.getElem?_eq_none_iff.mp h)]
    simp
  | some d =>
    obtain ⟨hj, ej⟩ := List.getElem?_eq_some_iff.mp h
    rw [List.drop_eq_getElem_cons hj, ej]
    simp
theorem find_lf {z : Str} {n e : Nat} (h : Lf (tl z) n e) : Txt.find3 z "\n" (n : Int) = (e : Int) := by
  obtain ⟨h1, h2, h3⟩ := h
  have el : ("\n" : Str) = ⟨#[10]⟩ := ext_tl (by decide +kernel)
  have he : e < z.length := by
    rw [len_tl]
    exact (List.getElem?_eq_some_iff.mp h2).1
  have ef : fromIndex z.length (n : Int) = n := by
    unfold fromIndex
    rw [if_neg (by omega)]
    omega
  unfold Txt.find3
  rw [ef, el, occ_eq]
  have q := occ_first z ⟨#[10]⟩ z.length (e - n) n n (z.length - e) (Nat.le_refl _) (fun i a b => by
    cases hb : subAt z ⟨#[10]⟩ i with
    | false => rfl
    | true => exact absurd (sub_one.mp hb) (h3 i a (by omega))) (by show n + (e - n) + 1 ≤ _; omega) (sub_one.mpr (by rw [show n + (e - n) = e by omega]; exact h2))
  rw [show z.length + 1 - n = e - n + 1 + (z.length - e) by omega, q, show n + (e - n) = e by omega]
end
end
section
variable {K : PySem.W.Frag} {P : Program} {w : World} {base : Heap} {mg : Str → Option Value}
section
variable (C CF : Addr)
abbrev tEnd (s : S) : Tk := ("ENDMARKER", cut s.tx s.at_ s.at_, s.at_)
abbrev atEnd (s : S) : S := { s with at_ := s.at_, join := -1, over := true }
def sp_finish : Sp := fun vs H Q _ => ∃ (a : Ad) (s : S) (tk : List Tk), vs = [.ref a.p] ∧ SA C CF H a s none tk ∧ s.tx.length ≤ 5000 ∧ tk.length ≤ 1000 ∧ s.join = -1 ∧ s.begun = false ∧
  Post C CF a H (atEnd s) none (tk ++ [tEnd s]) Q (.bl false)
def sp_comment_end : Sp := fun vs H Q _ => ∃ (a : Ad) (s : S) (fq : Option Str) (tk : List Tk) (n e : Nat), vs = [.ref a.p, .int (n : Int)] ∧ SA C CF H a s fq tk ∧ s.tx.length ≤ 5000 ∧ Lf (tl s.tx) n e ∧ Q (.int (e : Int)) H
def sp_read_comment : Sp := fun vs H Q _ => ∃ (a : Ad) (s : S) (fq : Option Str) (tk : List Tk) (e : Nat), vs = [.ref a.p] ∧ SA C CF H a s fq tk ∧ s.tx.length ≤ 5000 ∧ tk.length ≤ 1000 ∧ Lf (tl s.tx) s.at_ e ∧
  Post C CF a H { s with at_ := e, join := -1 } fq (tk ++ [(("COMMENT" : Str), cut s.tx s.at_ e, s.at_)]) Q (.bl true)
def sp_read_line_feed : Sp := fun vs H Q _ => ∃ (a : Ad) (s : S) (tk : List Tk), vs = [.ref a.p] ∧ SA C CF H a s none tk ∧ s.tx.length ≤ 5000 ∧ tk.length ≤ 1000 ∧
  Post C CF a H { s with at_ := s.at_ + 1, join := -1, fresh := true, begun := false } none (tk ++ [(("NEWLINE" : Str), cut s.tx s.at_ (s.at_ + 1), s.at_)]) Q .non
def sp_read_last_gap : Sp := fun vs H Q _ => ∃ (a : Ad) (s : S) (tk : List Tk), vs = [.ref a.p, .int (s.at_ : Int)] ∧ SA C CF H a s none tk ∧ s.tx.length ≤ 5000 ∧ tk.length ≤ 1000 ∧ s.join = -1 ∧ s.begun = false ∧
  Post C CF a H (atEnd s) none (tk ++ [tEnd s]) Q (.bl false)
def sp_read_empty_line : Sp := fun vs H Q _ => ∃ (a : Ad) (s : S) (fq : Option Str) (tk : List Tk) (n e : Nat), vs = [.ref a.p, .int (n : Int)] ∧ SA C CF H a s fq tk ∧ s.tx.length ≤ 5000 ∧ tk.length ≤ 900 ∧ Lf (tl s.tx) n e ∧ n < e ∧
  Post C CF a H { s with at_ := e + 1, join := -1 } fq (tk ++ [(("COMMENT" : Str), cut s.tx n e, n), (("NL" : Str), cut s.tx e (e + 1), e)]) Q (.bl true)
def sp_compare_indentation : Sp := fun vs H Q _ => ∃ (a : Ad) (s : S) (fq : Option Str) (tk : List Tk) (z : Str), vs = [.ref a.p, .str z, .int (s.at_ : Int)] ∧ SA C CF H a s fq tk ∧ s.tx.length ≤ 5000 ∧ tl z = [] ∧
  Post C CF a H { s with fresh := false } fq tk Q (.bl true)
end
theorem ok_finish (T : Top K mg) (O_add : OkM P w K mg base 1 "Scanner" "add" p_Scanner_add (sp_add (cS K) (cF K))) : OkM P w K mg base 2 "Scanner" "finish" p_Scanner_finish (sp_finish (cS K) (cF K)) := by
  refine mkOkM T.d_Scanner_finish T.m_finish T.c_Scanner sc_Scanner_finish b_Scanner_finish (fun vs H Q E h => ?_) (fun f cdv A outer s H vs Q E hr h => ?_)
  · obtain ⟨a, s, tk, rfl, _⟩ := h
    rfl
  obtain ⟨a, s, tk, rfl, h, hz, hl, hj, hb, q⟩ := h
  obtain ⟨dx, e1⟩ := h.ob
  refine ⟨_, (pss_cons (ps_if (pt_cmpR op_ge (pe_fld (pv 0) rfl) pe_int (nomark _)) pss_never pss_nil) (pss_cons (ps_if (pt_cmpR (op_neNil hr.units) (pe_fld (pv 0) rfl) (pe_lst pa_nil) (nomark _)) pss_never pss_nil) (pss_cons (ps_if (pt_val (pe_fld (pv 0) rfl)) (pss_one (ps_expr (pm O_add hr (pv 0) (pa_cons pe_str (pa_cons (pe_fld (pv 0) rfl) pa_nil))))) pss_nil) (pss_cons (ps_for PassesOwn.never rfl (pi_list (pe_slice sl_list (pe_fld (pv 0) rfl) (po_some pe_int) po_none)) (pg_name (i := 1) sc_Scanner_finish.nd rfl (Or.inl rfl)) pss_never) (pss_cons (ps_expr (pm O_add hr (pv 0) (pa_cons pe_str (pa_cons (pe_fld (pv 0) rfl) pa_nil)))) (pss_cons (ps_fld (pv 0) pe_bl rfl) (pss_one (ps_ret pe_bl)))))))), ?_⟩
  try dsimp only [cxOf]
  refine g_start (σ := [some _, none]) rfl ?_
  repeat wtm_at "g"
  refine g_ifF (decide_eq_false (by rw [hj]; decide)) ?_
  repeat wtm_at "g"
  refine ⟨Nat.zero_le _, fun B hB => ?_⟩
  repeat wtm_at "g"
  refine g_neNil (xs := []) (SqL.of ?_) (SqL.of upd_same) ?_
  · have : H a.fr = some (.lst []) := h.fr
    rw [upd_ne (ne_of_none this hB)]
    exact this
  have k1 := h.new (o := .lst []) hB
  have kp1 : Kp H (upd H B (.lst [])) a := Kp.new hB
  generalize upd H B (.lst []) = H1 at k1 kp1 ⊢
  obtain ⟨dx1, e2⟩ := k1.ob
  repeat wtm_at "g"
  refine g_ifF rfl ?_
  repeat wtm_at "g"
  refine g_ifF hb ?_
  repeat wtm_at "g"
  refine ⟨_, rfl, _, _, _, _, _, rfl, e2, T.c_Scanner, T.n_Scanner_levels, sf_levels _ _, ?_⟩
  repeat wtm_at "g"
  refine g_slL (SqL.of k1.lv) fun R hR => ?_
  have e5 : cutV [V.ref a.t0] (some 1) none = [] := by rfl
  rw [e5]
  have k2 := k1.new (o := .lst []) hR
  have kp2 : Kp H (upd H1 R (.lst [])) a := kp1.trans (Kp.new hR)
  have eR : upd H1 R (.lst []) R = some (.lst []) := upd_same
  generalize upd H1 R (.lst []) = H2 at k2 kp2 eR ⊢
  refine ⟨R, rfl, ⟨_, SqL.of eR⟩, for_list (xs := []) (fun i σ H' => H' = H2 ∧ σ = [some (.ref a.p), none]) ⟨rfl, rfl⟩ (fun i σ H' _ h' => by rw [h'.1]; exact SqL.of eR) (fun i x σ H' hx => by cases hx) ?_⟩
  rintro σ H' ⟨rfl, rfl⟩
  obtain ⟨dx2, e3⟩ := k2.ob
  repeat wtm_at "g"
  refine ⟨a, s, none, tk, "ENDMARKER", s.at_, rfl, k2, hz, hl, fun H3 k3 kp3 => ?_⟩
  obtain ⟨dx3, e4⟩ := k3.ob
  repeat wtm_at "g"
  refine g_stAt e4 T.c_Scanner T.n_Scanner_is_over (sf_len _ _) (sw_over _ _ _) ?_
  repeat wtm_at "g"
  exact q _ (k3.fld _) ((kp2.trans kp3).trans Kp.p)
theorem ok_comment_end (T : Top K mg) : OkM P w K mg base 1 "Scanner" "comment_end" p_Scanner_comment_end (sp_comment_end (cS K) (cF K)) := by
  refine mkOkM T.d_Scanner_comment_end T.m_comment_end T.c_Scanner sc_Scanner_comment_end b_Scanner_comment_end (fun vs H Q E h => ?_) (fun f cdv A outer s H vs Q E hr h => ?_)
  · obtain ⟨a, s, fq, tk, n, e, rfl, _⟩ := h
    rfl
  obtain ⟨a, s, fq, tk, n, e, rfl, h, hz, hf, q⟩ := h
  obtain ⟨dx, e1⟩ := h.ob
  refine ⟨_, (pss_cons (ps_set (i := 2) sc_Scanner_comment_end.nd rfl (Or.inl rfl) (pe_bm PySem.F.plainAttrs_str PySem.F.slot_str_find PySem.F.type_str_find mt_find3 (pe_fld (pv 0) rfl) (pa_cons pe_str (pa_cons (pv 1) pa_nil)))) (pss_cons (ps_if (pt_cmpR op_ge (pv 2) pe_int (nomark _)) (pss_one (ps_ret (pv 2))) pss_nil) (pss_one (ps_ret (pe_ifExp (pt_val (pe_fld (pv 0) rfl)) (pe_callB cr_lnS rfl T.f_len PySem.boot_len (pa_cons (pe_fld (pv 0) rfl) pa_nil)) (pgI T.i_MORE rfl)))))), ?_⟩
  try dsimp only [cxOf]
  refine g_start (σ := [some _, some _, none]) rfl ?_
  repeat wtm_at "g"
  refine ⟨rfl, ?_⟩
  repeat wtm_at "g"
  refine ⟨s.tx, "\n", (n : Int), rfl, rfl, ?_⟩
  rw [find_lf hf]
  repeat wtm_at "g"
  refine g_ifT (decide_eq_true (by omega)) ?_
  repeat wtm_at "g"
  exact q
theorem ok_read_comment (T : Top K mg) (O_add : OkM P w K mg base 1 "Scanner" "add" p_Scanner_add (sp_add (cS K) (cF K))) (O_comment_end : OkM P w K mg base 1 "Scanner" "comment_end" p_Scanner_comment_end (sp_comment_end (cS K) (cF K))) :
    OkM P w K mg base 2 "Scanner" "read_comment" p_Scanner_read_comment (sp_read_comment (cS K) (cF K)) := by
  refine mkOkM T.d_Scanner_read_comment T.m_read_comment T.c_Scanner sc_Scanner_read_comment b_Scanner_read_comment (fun vs H Q E h => ?_) (fun f cdv A outer s H vs Q E hr h => ?_)
  · obtain ⟨a, s, fq, tk, e, rfl, _⟩ := h
    rfl
  obtain ⟨a, s, fq, tk, e, rfl, h, hz, hl, hf, q⟩ := h
  obtain ⟨dx, e1⟩ := h.ob
  refine ⟨_, (pss_cons (ps_set (i := 1) sc_Scanner_read_comment.nd rfl (Or.inl rfl) (pm O_comment_end hr (pv 0) (pa_cons (pe_fld (pv 0) rfl) pa_nil))) (pss_cons (ps_if (pt_cmpR op_eq (pv 1) (pgI T.i_MORE rfl) (nomark _)) (pss_one (ps_ret pe_bl)) pss_nil) (pss_cons (ps_expr (pm O_add hr (pv 0) (pa_cons pe_str (pa_cons (pv 1) pa_nil)))) (pss_one (ps_ret pe_bl))))), ?_⟩
  try dsimp only [cxOf]
  refine g_start (σ := [some _, none]) rfl ?_
  repeat wtm_at "g"
  refine ⟨a, s, fq, tk, s.at_, e, rfl, h, hz, hf, ?_⟩
  repeat wtm_at "g"
  refine g_ifF (decide_eq_false fun z => by injection z with z; omega) ?_
  repeat wtm_at "g"
  refine ⟨a, s, fq, tk, "COMMENT", e, rfl, h, hz, hl, fun H3 k3 kp3 => ?_⟩
  repeat wtm_at "g"
  exact q H3 k3 kp3
theorem ok_read_line_feed (T : Top K mg) (O_add : OkM P w K mg base 1 "Scanner" "add" p_Scanner_add (sp_add (cS K) (cF K))) : OkM P w K mg base 2 "Scanner" "read_line_feed" p_Scanner_read_line_feed (sp_read_line_feed (cS K) (cF K)) := by
  refine mkOkM T.d_Scanner_read_line_feed T.m_read_line_feed T.c_Scanner sc_Scanner_read_line_feed b_Scanner_read_line_feed (fun vs H Q E h => ?_) (fun f cdv A outer s H vs Q E hr h => ?_)
  · obtain ⟨a, s, tk, rfl, _⟩ := h
    rfl
  obtain ⟨a, s, tk, rfl, h, hz, hl, q⟩ := h
  obtain ⟨dx, e1⟩ := h.ob
  refine ⟨_, (pss_cons (ps_if (pt_cmpR (op_neNil hr.units) (pe_fld (pv 0) rfl) (pe_lst pa_nil) (nomark _)) pss_never pss_nil) (pss_cons (ps_expr (pm O_add hr (pv 0) (pa_cons pe_str (pa_cons (pe_op op_add (pe_fld (pv 0) rfl) pe_int) pa_nil)))) (pss_cons (ps_fld (pv 0) pe_bl rfl) (pss_one (ps_fld (pv 0) pe_bl rfl))))), ?_⟩
  try dsimp only [cxOf]
  refine g_start (σ := [some _]) rfl ?_
  repeat wtm_at "g"
  refine ⟨Nat.zero_le _, fun B hB => ?_⟩
  repeat wtm_at "g"
  refine g_neNil (xs := []) (SqL.of ?_) (SqL.of upd_same) ?_
  · have : H a.fr = some (.lst []) := h.fr
    rw [upd_ne (ne_of_none this hB)]
    exact this
  have k1 := h.new (o := .lst []) hB
  have kp1 : Kp H (upd H B (.lst [])) a := Kp.new hB
  generalize upd H B (.lst []) = H1 at k1 kp1 ⊢
  obtain ⟨dx1, e2⟩ := k1.ob
  repeat wtm_at "g"
  refine g_ifF rfl ?_
  repeat wtm_at "g"
  refine ⟨a, s, none, tk, "NEWLINE", s.at_ + 1, rfl, k1, hz, hl, fun H3 k3 kp3 => ?_⟩
  obtain ⟨dx3, e4⟩ := k3.ob
  repeat wtm_at "g"
  refine g_stAt e4 T.c_Scanner T.n_Scanner_is_fresh (sf_len _ _) (sw_fresh _ _ _) ?_
  repeat wtm_at "g"
  refine g_stAt upd_same T.c_Scanner T.n_Scanner_is_begun (sf_len _ _) (sw_begun _ _ _) ?_
  exact q _ ((k3.fld _).fld _) (((kp1.trans kp3).trans Kp.p).trans Kp.p)
end
section
variable {K : PySem.W.Frag} {P : Program} {w : World} {base : Heap} {mg : Str → Option Value}
theorem tlGaps : tl " \t" = [32, 9] := by decide +kernel
theorem tlHash : tl "#\n" = [35, 10] := by decide +kernel
theorem tlQuotes : tl "'\"" = [39, 34] := by decide +kernel
theorem ok_read_last_gap (T : Top K mg) (O_finish : OkM P w K mg base 2 "Scanner" "finish" p_Scanner_finish (sp_finish (cS K) (cF K))) : OkM P w K mg base 3 "Scanner" "read_last_gap" p_Scanner_read_last_gap (sp_read_last_gap (cS K) (cF K)) := by
  refine mkOkM T.d_Scanner_read_last_gap T.m_read_last_gap T.c_Scanner sc_Scanner_read_last_gap b_Scanner_read_last_gap (fun vs H Q E h => ?_) (fun f cdv A outer s H vs Q E hr h => ?_)
  · obtain ⟨a, s, tk, rfl, _⟩ := h
    rfl
  obtain ⟨a, s, tk, rfl, h, hz, hl, hj, hb, q⟩ := h
  obtain ⟨dx, e1⟩ := h.ob
  refine ⟨_, (pss_cons (ps_if (pt_cmpR op_gt (pv 1) (pe_fld (pv 0) rfl) (nomark _)) pss_never pss_nil) (pss_one (ps_ret (pm0 O_finish hr (pv 0))))), ?_⟩
  try dsimp only [cxOf]
  refine g_start (σ := [some _, some _]) rfl ?_
  repeat wtm_at "g"
  refine g_ifF (decide_eq_false (by omega)) ?_
  repeat wtm_at "g"
  exact ⟨a, s, tk, rfl, h, hz, hl, hj, hb, q⟩
theorem ok_read_empty_line (T : Top K mg) (O_add : OkM P w K mg base 1 "Scanner" "add" p_Scanner_add (sp_add (cS K) (cF K))) (O_comment_end : OkM P w K mg base 1 "Scanner" "comment_end" p_Scanner_comment_end (sp_comment_end (cS K) (cF K))) :
    OkM P w K mg base 2 "Scanner" "read_empty_line" p_Scanner_read_empty_line (sp_read_empty_line (cS K) (cF K)) := by
  refine mkOkM T.d_Scanner_read_empty_line T.m_read_empty_line T.c_Scanner sc_Scanner_read_empty_line b_Scanner_read_empty_line (fun vs H Q E h => ?_) (fun f cdv A outer s H vs Q E hr h => ?_)
  · obtain ⟨a, s, fq, tk, n, e, rfl, _⟩ := h
    rfl
  obtain ⟨a, s, fq, tk, n, e, rfl, h, hz, hl, hf, hne, q⟩ := h
  obtain ⟨dx, e1⟩ := h.ob
  have he : e < s.tx.length := by
    rw [len_tl]
    exact (List.getElem?_eq_some_iff.mp hf.2.1).1
  refine ⟨_, (pss_cons (ps_set (i := 2) sc_Scanner_read_empty_line.nd rfl (Or.inl rfl) (pm O_comment_end hr (pv 0) (pa_cons (pv 1) pa_nil))) (pss_cons (ps_if (pt_cmpR op_eq (pv 2) (pgI T.i_MORE rfl) (nomark _)) (pss_one (ps_ret pe_bl)) pss_nil) (pss_cons (ps_fld (pv 0) (pv 1) rfl) (pss_cons (ps_if (pt_cmpR op_gt (pv 2) (pv 1) (nomark _)) (pss_one (ps_expr (pm O_add hr (pv 0) (pa_cons pe_str (pa_cons (pv 2) pa_nil))))) pss_nil) (pss_cons (ps_expr (pm O_add hr (pv 0) (pa_cons pe_str (pa_cons (pe_callB (call_min2 rfl) rfl T.f_min (by decide +kernel) (pa_cons (pe_op op_add (pv 2) pe_int) (pa_cons (pe_callB cr_lnS rfl T.f_len PySem.boot_len (pa_cons (pe_fld (pv 0) rfl) pa_nil)) pa_nil))) pa_nil)))) (pss_one (ps_ret pe_bl))))))), ?_⟩
  try dsimp only [cxOf]
  refine g_start (σ := [some _, some _, none]) rfl ?_
  repeat wtm_at "g"
  refine ⟨a, s, fq, tk, n, e, rfl, h, hz, hf, ?_⟩
  repeat wtm_at "g"
  refine g_ifF (decide_eq_false fun z => by injection z with z; omega) ?_
  repeat wtm_at "g"
  refine g_stAt e1 T.c_Scanner T.n_Scanner_at (sf_len _ _) (sw_at _ _ _) ?_
  have k1 := h.fld (dx := dx) { s with at_ := n }
  have kp1 : Kp H (upd H a.p (.ins (cS K) dx (sf a { s with at_ := n }))) a := Kp.p
  generalize upd H a.p (.ins (cS K) dx (sf a { s with at_ := n })) = H1 at k1 kp1 ⊢
  obtain ⟨dx1, e2⟩ := k1.ob
  repeat wtm_at "g"
  refine g_ifT (decide_eq_true (by omega)) ?_
  repeat wtm_at "g"
  refine ⟨a, _, fq, tk, "COMMENT", e, rfl, k1, hz, by omega, fun H3 k3 kp3 => ?_⟩
  obtain ⟨dx3, e4⟩ := k3.ob
  repeat wtm_at "g"
  refine ⟨_, _, rfl, ?_⟩
  rw [if_neg (by show ¬ (s.tx.length : Int) < (e : Int) + 1; omega)]
  repeat wtm_at "g"
  refine ⟨a, _, fq, _, "NL", e + 1, rfl, k3, hz, ?_, fun H4 k4 kp4 => ?_⟩
  · rw [List.length_append]
    rw [List.length_singleton]
    omega
  repeat wtm_at "g"
  refine q H4 ?_ ((kp1.trans kp3).trans kp4)
  rw [List.append_assoc] at k4
  exact k4
theorem shaped00 : SeqAt.shaped (.tuple [.int 0, .int 0]) = true := by decide +kernel
theorem ok_compare_indentation (T : Top K mg) (O_width_of : Ok P w K mg base 1 "width_of" p_width_of sp_width_of) : OkM P w K mg base 2 "Scanner" "compare_indentation" p_Scanner_compare_indentation (sp_compare_indentation (cS K) (cF K)) := by
  refine mkOkM T.d_Scanner_compare_indentation T.m_compare_indentation T.c_Scanner sc_Scanner_compare_indentation b_Scanner_compare_indentation (fun vs H Q E h => ?_) (fun f cdv A outer s H vs Q E hr h => ?_)
  · obtain ⟨a, s, fq, tk, z, rfl, _⟩ := h
    rfl
  obtain ⟨a, s, fq, tk, z, rfl, h, hz, hn, q⟩ := h
  obtain ⟨dx, e1⟩ := h.ob
  have hzl : z.length = 0 := (len0_tl z).mpr hn
  refine ⟨_, (pss_cons (ps_par rfl sc_Scanner_compare_indentation.nd (i := 3) (j := 4) rfl rfl (by decide) rfl rfl (pa_cons (pc O_width_of hr rfl (pa_cons (pv 1) pa_nil)) (pa_cons (pe_callB cr_lnS rfl T.f_len PySem.boot_len (pa_cons (pv 1) pa_nil)) pa_nil)) rfl) (pss_cons (ps_if (PW.pt (pw_and (pt_cmpR op_gt (pv 3) (pe_ix ix_tup (pe_ix ix_list (pe_fld (pv 0) rfl) (pe_un un_neg pe_int) (fun _ _ => rfl)) pe_int (fun _ _ => rfl)) (nomark _)) (pw_and1 (pt_cmpR op_gt (pv 4) (pe_ix ix_tup (pe_ix ix_list (pe_fld (pv 0) rfl) (pe_un un_neg pe_int) (fun _ _ => rfl)) pe_int (fun _ _ => rfl)) (nomark _))))) pss_never (pss_one (ps_if (pt_cmpR op_lt (pv 3) (pe_ix ix_tup (pe_ix ix_list (pe_fld (pv 0) rfl) (pe_un un_neg pe_int) (fun _ _ => rfl)) pe_int (fun _ _ => rfl)) (nomark _)) pss_never (pss_one (ps_if (pt_cmpR (op_neD hr.units) (pe_tup (pa_cons (pv 3) (pa_cons (pv 4) pa_nil))) (pe_ix ix_list (pe_fld (pv 0) rfl) (pe_un un_neg pe_int) (fun _ _ => rfl)) (nomark _)) pss_never pss_nil))))) (pss_cons (ps_fld (pv 0) (pv 2) rfl) (pss_cons (ps_fld (pv 0) pe_bl rfl) (pss_one (ps_ret pe_bl)))))), ?_⟩
  try dsimp only [cxOf]
  refine g_start (σ := [some _, some _, some _, none, none, none]) rfl ?_
  repeat wtm_at "g"
  refine ⟨z, rfl, hn, ?_⟩
  repeat wtm_at "g"
  rw [hzl]
  refine g_ixL (v := .ref a.t0) (SqL.of h.lv) rfl ?_
  repeat wtm_at "g"
  refine g_ixT (v := .int 0) (SqT.of h.t0) rfl ?_
  repeat wtm_at "g"
  refine g_ifF rfl ?_
  refine g_ifF rfl ?_
  repeat wtm_at "g"
  refine g_ixL (v := .ref a.t0) (SqL.of h.lv) rfl ?_
  repeat wtm_at "g"
  refine g_ixT (v := .int 0) (SqT.of h.t0) rfl ?_
  repeat wtm_at "g"
  refine g_ifF rfl ?_
  repeat wtm_at "g"
  refine ⟨by show 2 ≤ sizeLine; decide, fun B hB => ?_⟩
  have k1 := h.new (o := .tup [.int 0, .int ((0 : Nat) : Int)]) hB
  have kp1 : Kp H (upd H B (.tup [.int 0, .int ((0 : Nat) : Int)])) a := Kp.new hB
  have eB : upd H B (.tup [.int 0, .int ((0 : Nat) : Int)]) B = some (.tup [.int 0, .int ((0 : Nat) : Int)]) := upd_same
  generalize upd H B (.tup [.int 0, .int ((0 : Nat) : Int)]) = H1 at k1 kp1 eB ⊢
  obtain ⟨dx1, e2⟩ := k1.ob
  repeat wtm_at "g"
  refine g_ixL (v := .ref a.t0) (SqL.of k1.lv) rfl ?_
  refine ⟨.tuple [.int 0, .int 0], .tuple [.int 0, .int 0], .tup (SqT.of eB) (.cons (.int 0) (.cons (.int 0) .nil)), .tup (SqT.of k1.t0) (.cons (.int 0) (.cons (.int 0) .nil)), shaped00, shaped00, ?_⟩
  have e3 : PyData.eqv (.tuple [.int 0, .int 0]) (.tuple [.int 0, .int 0]) = true := by decide +kernel
  rw [e3]
  repeat wtm_at "g"
  refine g_ifF rfl ?_
  repeat wtm_at "g"
  refine g_stAt e2 T.c_Scanner T.n_Scanner_at (sf_len _ _) (sw_at _ _ _) ?_
  repeat wtm_at "g"
  refine g_stAt upd_same T.c_Scanner T.n_Scanner_is_fresh (sf_len _ _) (sw_fresh _ _ _) ?_
  repeat wtm_at "g"
  exact q _ ((k1.fld _).fld _) ((kp1.trans Kp.p).trans Kp.p)
/-- what the beginning of a logical line may be -/
inductive IndR (s : S) (tk : List Tk) : S → List Tk → Bool → Prop
  | more : s.at_ = s.tx.length → s.final = false → IndR s tk s tk false
  | fin : s.at_ = s.tx.length → s.final = true → s.join = -1 → s.begun = false → IndR s tk (atEnd s) (tk ++ [tEnd s]) false
  | cmt (e : Nat) : (tl s.tx)[s.at_]? = some 35 → Lf (tl s.tx) s.at_ e → s.at_ < e → IndR s tk { s with at_ := e + 1, join := -1 } (tk ++ [(("COMMENT" : Str), cut s.tx s.at_ e, s.at_), (("NL" : Str), cut s.tx e (e + 1), e)]) true
  | go (c : Nat) : (tl s.tx)[s.at_]? = some c → c ≠ 32 → c ≠ 9 → c ≠ 35 → c ≠ 10 → IndR s tk { s with fresh := false } tk true
def sp_read_indentation (C CF : Addr) : Sp := fun vs H Q _ => ∃ (a : Ad) (s : S) (tk : List Tk) (s' : S) (tk' : List Tk) (b : Bool), vs = [.ref a.p] ∧ SA C CF H a s none tk ∧ s.tx.length ≤ 5000 ∧ tk.length ≤ 900 ∧ IndR s tk s' tk' b ∧
  Post C CF a H s' none tk' Q (.bl b)
theorem notGap {c : Nat} (h1 : c ≠ 32) (h2 : c ≠ 9) : decide (c ∈ tl " \t") = false := by
  rw [tlGaps]
  simp [h1, h2]
theorem ok_read_indentation (T : Top K mg) (O_read_last_gap : OkM P w K mg base 3 "Scanner" "read_last_gap" p_Scanner_read_last_gap (sp_read_last_gap (cS K) (cF K))) (O_read_empty_line : OkM P w K mg base 2 "Scanner" "read_empty_line" p_Scanner_read_empty_line (sp_read_empty_line (cS K) (cF K)))
    (O_compare_indentation : OkM P w K mg base 2 "Scanner" "compare_indentation" p_Scanner_compare_indentation (sp_compare_indentation (cS K) (cF K))) : OkM P w K mg base 4 "Scanner" "read_indentation" p_Scanner_read_indentation (sp_read_indentation (cS K) (cF K)) := by
  refine mkOkM T.d_Scanner_read_indentation T.m_read_indentation T.c_Scanner sc_Scanner_read_indentation b_Scanner_read_indentation (fun vs H Q E h => ?_) (fun f cdv A outer s H vs Q E hr h => ?_)
  · obtain ⟨a, s, tk, s', tk', b, rfl, _⟩ := h
    rfl
  obtain ⟨a, s, tk, s', tk', b, rfl, h, hz, hl, hR, q⟩ := h
  obtain ⟨dx, e1⟩ := h.ob
  refine ⟨_, (pss_cons (ps_set (i := 1) sc_Scanner_read_indentation.nd rfl (Or.inl rfl) (pe_fld (pv 0) rfl)) (pss_cons (ps_while PassesOwn.never (PW.pt (pw_and (pt_cmpR op_lt (pv 1) (pe_callB cr_lnS rfl T.f_len PySem.boot_len (pa_cons (pe_fld (pv 0) rfl) pa_nil)) (nomark _)) (pw_and1 (pt_cmpR op_inS (pe_ix ix_str (pe_fld (pv 0) rfl) (pv 1) (fun _ _ => rfl)) (pgS T.s_GAPS rfl) rfl)))) (pss_one (ps_aug (i := 1) sc_Scanner_read_indentation.nd rfl (Or.inl rfl) pe_int ip_add))) (pss_cons (ps_if (pt_cmpR op_eq (pv 1) (pe_callB cr_lnS rfl T.f_len PySem.boot_len (pa_cons (pe_fld (pv 0) rfl) pa_nil)) (nomark _)) (pss_one (ps_ret (pe_and (pe_fld (pv 0) rfl) (pe_one (pm O_read_last_gap hr (pv 0) (pa_cons (pv 1) pa_nil)))))) pss_nil) (pss_cons (ps_if (pt_cmpR op_inS (pe_ix ix_str (pe_fld (pv 0) rfl) (pv 1) (fun _ _ => rfl)) pe_str rfl) (pss_one (ps_ret (pm O_read_empty_line hr (pv 0) (pa_cons (pv 1) pa_nil)))) pss_nil) (pss_one (ps_ret (pm O_compare_indentation hr (pv 0) (pa_cons (pe_slice sl_str (pe_fld (pv 0) rfl) (po_some (pe_fld (pv 0) rfl)) (po_some (pv 1))) (pa_cons (pv 1) pa_nil))))))))), ?_⟩
  try dsimp only [cxOf]
  refine g_start (σ := [some _, none]) rfl ?_
  repeat wtm_at "g"
  refine ⟨fun m σ H' => H' = H ∧ σ = [some (.ref a.p), some (.int (s.at_ : Int))], ⟨0, rfl, rfl⟩, ?_⟩
  rintro m σ H' ⟨rfl, rfl⟩
  repeat wtm_at "g"
  cases hR with
  | more hat hfin =>
    refine g_ifF (decide_eq_false (by omega)) ?_
    refine g_ifF rfl ?_
    repeat wtm_at "g"
    refine g_ifT (decide_eq_true (by rw [hat])) ?_
    repeat wtm_at "g"
    rw [hfin]
    refine g_ifF rfl ?_
    exact q H' h (Kp.refl _ _)
  | fin hat hfin hj hb =>
    refine g_ifF (decide_eq_false (by omega)) ?_
    refine g_ifF rfl ?_
    repeat wtm_at "g"
    refine g_ifT (decide_eq_true (by rw [hat])) ?_
    repeat wtm_at "g"
    refine g_ifT hfin ?_
    repeat wtm_at "g"
    exact ⟨a, s, tk, rfl, h, hz, by omega, hj, hb, q⟩
  | cmt e hc hf hne =>
    have hlt : s.at_ < s.tx.length := by
      rw [len_tl]
      exact (List.getElem?_eq_some_iff.mp hc).1
    refine g_ifT (decide_eq_true (by omega)) ?_
    repeat wtm_at "g"
    refine g_ifF (notGap (by decide) (by decide)) ?_
    repeat wtm_at "g"
    refine g_ifF (decide_eq_false fun z => by injection z with z; omega) ?_
    repeat wtm_at "g"
    refine g_ifT (by rw [tlHash]; decide) ?_
    repeat wtm_at "g"
    exact ⟨a, s, none, tk, s.at_, e, rfl, h, hz, hl, hf, hne, q⟩
  | go c hc h1 h2 h3 h4 =>
    have hlt : s.at_ < s.tx.length := by
      rw [len_tl]
      exact (List.getElem?_eq_some_iff.mp hc).1
    refine g_ifT (decide_eq_true (by omega)) ?_
    repeat wtm_at "g"
    refine g_ifF (notGap h1 h2) ?_
    repeat wtm_at "g"
    refine g_ifF (decide_eq_false fun z => by injection z with z; omega) ?_
    repeat wtm_at "g"
    refine g_ifF (by rw [tlHash]; simp [h3, h4]) ?_
    repeat wtm_at "g"
    rw [cut_eq]
    exact ⟨a, s, none, tk, _, rfl, h, hz, by rw [tl_cut (by omega), Nat.sub_self, List.take_zero], q⟩
end
section
variable {K : PySem.W.Frag} {P : Program} {w : World} {base : Heap} {mg : Str → Option Value}
section
variable (C CF : Addr)
abbrev sLex (s : S) (e : Nat) : S := { s with at_ := e, join := -1, begun := true }
abbrev tTk (kd : Str) (s : S) (e : Nat) : Tk := (kd, cut s.tx s.at_ e, s.at_)
def sp_read_string : Sp := fun vs H Q _ => ∃ (a : Ad) (s : S) (fq : Option Str) (tk : List Tk) (n c : Nat) (y : Str) (k : Nat), vs = [.ref a.p, .int (n : Int)] ∧ SA C CF H a s fq tk ∧ s.tx.length ≤ 5000 ∧ tk.length ≤ 1000 ∧ s.final = false ∧
  (tl s.tx)[n]? = some c ∧ QuoteAt s.tx n c y ∧ StrEnd (tl s.tx) (tl y) (n + y.length) k ∧ Post C CF a H (sLex s (k + y.length)) fq (tk ++ [tTk "STRING" s (k + y.length)]) Q (.bl true)
def sp_begin_string : Sp := fun vs H Q _ => ∃ (a : Ad) (s : S) (tk : List Tk) (n c : Nat), vs = [.ref a.p, .int (n : Int)] ∧ SA C CF H a s none tk ∧ s.tx.length ≤ 5000 ∧ tk.length ≤ 1000 ∧ s.final = false ∧ s.at_ = 0 ∧
  (tl s.tx)[n]? = some c ∧ ((tl s.tx).drop n).take 3 = [c, c, c] ∧ Post C CF a H (sLex s (n + 3)) (some ⟨#[c, c, c]⟩) (tk ++ [tTk "FSTRING_START" s (n + 3)]) Q (.bl true)
end
theorem ne_empty {y : Str} (h : 1 ≤ y.length) : decide (V.str y = V.str "") = false := decide_eq_false fun e => by
  injection e with e
  rw [e] at h
  exact absurd h (by decide +kernel)
theorem ne_neg (k : Nat) (i : Int) (h : i < 0) : decide (V.int (k : Int) = V.int i) = false := decide_eq_false fun e => by
  injection e with e
  omega
theorem ok_read_string (T : Top K mg) (O_quote_at : Ok P w K mg base 1 "quote_at" p_quote_at sp_quote_at) (O_string_end : Ok P w K mg base 1 "string_end" p_string_end sp_string_end)
    (O_add_lexeme : OkM P w K mg base 2 "Scanner" "add_lexeme" p_Scanner_add_lexeme (sp_add_lexeme (cS K) (cF K))) : OkM P w K mg base 3 "Scanner" "read_string" p_Scanner_read_string (sp_read_string (cS K) (cF K)) := by
  refine mkOkM T.d_Scanner_read_string T.m_read_string T.c_Scanner sc_Scanner_read_string b_Scanner_read_string (fun vs H Q E h => ?_) (fun f cdv A outer s H vs Q E hr h => ?_)
  · obtain ⟨a, s, fq, tk, n, c, y, k, rfl, _⟩ := h
    rfl
  obtain ⟨a, s, fq, tk, n, c, y, k, rfl, h, hz, hl, hfin, hc, hQ, hE, q⟩ := h
  obtain ⟨dx, e1⟩ := h.ob
  refine ⟨_, (pss_cons (ps_set (i := 2) sc_Scanner_read_string.nd rfl (Or.inl rfl) (pc O_quote_at hr rfl (pa_cons (pe_fld (pv 0) rfl) (pa_cons (pv 1) (pa_cons (pe_fld (pv 0) rfl) pa_nil))))) (pss_cons (ps_if (pt_cmpR op_eq (pv 2) pe_str (nomark _)) (pss_one (ps_ret pe_bl)) pss_nil) (pss_cons (ps_set (i := 3) sc_Scanner_read_string.nd rfl (Or.inl rfl) (pc O_string_end hr rfl (pa_cons (pe_fld (pv 0) rfl) (pa_cons (pe_op op_add (pv 1) (pe_callB cr_lnS rfl T.f_len PySem.boot_len (pa_cons (pv 2) pa_nil))) (pa_cons (pv 2) (pa_cons (pe_fld (pv 0) rfl) pa_nil)))))) (pss_cons (ps_if (pt_cmpR op_eq (pv 3) (pgI T.i_WRONG rfl) (nomark _)) pss_never pss_nil) (pss_cons (ps_if (pt_cmpR op_eq (pv 3) (pgI T.i_MORE rfl) (nomark _)) (pss_one (ps_ret pe_bl)) pss_nil) (pss_cons (ps_expr (pm O_add_lexeme hr (pv 0) (pa_cons pe_str (pa_cons (pv 3) pa_nil)))) (pss_one (ps_ret pe_bl)))))))), ?_⟩
  try dsimp only [cxOf]
  refine g_start (σ := [some _, some _, none, none]) rfl ?_
  repeat wtm_at "g"
  rw [hfin]
  have hy := hQ.len
  refine ⟨s.tx, n, c, y, rfl, hz, hc, hQ, ?_⟩
  repeat wtm_at "g"
  refine g_ifF (ne_empty hy.1) ?_
  repeat wtm_at "g"
  rw [hfin]
  refine ⟨s.tx, y, n + y.length, k, rfl, hz, hy.2, hE, ?_⟩
  repeat wtm_at "g"
  refine g_ifF (ne_neg _ _ (by decide)) ?_
  repeat wtm_at "g"
  refine g_ifF (ne_neg _ _ (by decide)) ?_
  repeat wtm_at "g"
  refine ⟨a, s, fq, tk, "STRING", k + y.length, rfl, h, hz, hl, fun H3 k3 kp3 => ?_⟩
  repeat wtm_at "g"
  exact q H3 k3 kp3
theorem ok_begin_string (T : Top K mg) (O_quote_at : Ok P w K mg base 1 "quote_at" p_quote_at sp_quote_at) (O_Frame_init : OkM P w K mg base 1 "Frame" "__init__" p_Frame_init (sp_Frame_init (He.ga K "Frame")))
    (O_add_lexeme : OkM P w K mg base 2 "Scanner" "add_lexeme" p_Scanner_add_lexeme (sp_add_lexeme (cS K) (cF K))) : OkM P w K mg base 3 "Scanner" "begin_string" p_Scanner_begin_string (sp_begin_string (cS K) (cF K)) := by
  refine mkOkM T.d_Scanner_begin_string T.m_begin_string T.c_Scanner sc_Scanner_begin_string b_Scanner_begin_string (fun vs H Q E h => ?_) (fun f cdv A outer s H vs Q E hr h => ?_)
  · obtain ⟨a, s, tk, n, c, rfl, _⟩ := h
    rfl
  obtain ⟨a, s, tk, n, c, rfl, h, hz, hl, hfin, hat, hc, h3, q⟩ := h
  obtain ⟨dx, e1⟩ := h.ob
  have hfr : H a.fr = some (.lst []) := h.fr
  refine ⟨_, (pss_cons (ps_if (pt_cmpR op_eq (pe_callB cr_lnL rfl T.f_len PySem.boot_len (pa_cons (pe_lc (own := [("frame", 3)]) (g := gName 3) (tt := tTest (tOp rEq (tFld K (tVar 3) "mark") (tC (.str "string")))) rfl sc_Scanner_begin_string.nd (pi_list (pe_fld (pv 0) rfl)) (blkOk_by (own := [("frame", 3)]) (N := n_Scanner_begin_string) (sc := defScope s_Scanner_begin_string) (by decide +kernel)) (fun _ _ _ _ _ => pg_name (i := 3) sc_Scanner_begin_string.nd rfl (Or.inl rfl)) (fun _ _ _ _ _ => pts_one (pt_cmpR op_eq (pe_fld (pv 3) rfl) pe_str (nomark _))) (fun _ _ _ _ _ => (pv 3))) pa_nil)) (pgI T.i_MOST_STRINGS rfl) (nomark _)) pss_never pss_nil) (pss_cons (ps_set (i := 2) sc_Scanner_begin_string.nd rfl (Or.inl rfl) (pc O_quote_at hr rfl (pa_cons (pe_fld (pv 0) rfl) (pa_cons (pv 1) (pa_cons (pe_fld (pv 0) rfl) pa_nil))))) (pss_cons (ps_if (pt_cmpR op_eq (pv 2) pe_str (nomark _)) (pss_one (ps_ret pe_bl)) pss_nil) (pss_cons (ps_expr (pe_bm PySem.F.plainAttrs_list PySem.F.slot_list_append PySem.F.type_list_append mt_append (pe_fld (pv 0) rfl) (pa_cons (pmk O_Frame_init T.k_Frame T.g_Frame hr rfl (pa_cons pe_str (pa_cons (pe_fld (pv 0) rfl) (pa_cons (pv 2) pa_nil)))) pa_nil))) (pss_cons (ps_expr (pm O_add_lexeme hr (pv 0) (pa_cons pe_str (pa_cons (pe_op op_add (pv 1) (pe_callB cr_lnS rfl T.f_len PySem.boot_len (pa_cons (pv 2) pa_nil))) pa_nil)))) (pss_one (ps_ret pe_bl))))))), ?_⟩
  try dsimp only [cxOf]
  refine g_start (σ := [some _, some _, none, none]) rfl ?_
  repeat wtm_at "g"
  refine ⟨_, rfl, _, _, _, _, _, rfl, e1, T.c_Scanner, T.n_Scanner_frames, sf_frames _ _, a.fr, rfl, ⟨_, SqL.of hfr⟩, fun B hB => lc_list (K := K) (a := a.fr) (xs := []) (fun i H' => H' = upd H B (.lst [])) rfl ?_ (fun i x H' hx => by cases hx) ?_⟩
  · rintro i H' _ rfl
    refine SqL.of ?_
    rw [upd_ne (ne_of_none hfr hB)]
    exact hfr
  rintro H' rfl
  have k1 := h.new (o := .lst []) hB
  have kp1 : Kp H (upd H B (.lst [])) a := Kp.new hB
  have eB : upd H B (.lst []) B = some (.lst []) := upd_same
  generalize upd H B (.lst []) = H1 at k1 kp1 eB ⊢
  obtain ⟨dx1, e2⟩ := k1.ob
  repeat wtm_at "g"
  refine g_lnL (SqL.of eB) ?_
  repeat wtm_at "g"
  refine g_ifF rfl ?_
  repeat wtm_at "g"
  rw [hfin]
  have hq3 : (⟨#[c, c, c]⟩ : Str).length ≤ sizeLine := szL (by show 3 ≤ 100000; decide)
  refine ⟨s.tx, n, c, _, rfl, hz, hc, .three h3, ?_⟩
  repeat wtm_at "g"
  refine g_ifF (ne_empty (by show 1 ≤ 3; decide)) ?_
  repeat wtm_at "g"
  have hfr1 : H1 a.fr = some (.lst []) := k1.fr
  refine ⟨.inl ⟨rfl, _, SqL.of hfr1⟩, ?_⟩
  repeat wtm_at "g"
  intro F dF nF ndF nex
  rw [hat]
  refine ⟨F, dF, ⟨#[c, c, c]⟩, rfl, upd_same, fun H2 eF kF => ⟨rfl, ?_⟩⟩
  have sm : Same H1 H2 := Same.made nF ndF kF
  have k2 := k1.same sm
  have hfr2 : H2 a.fr = some (.lst []) := sm _ _ hfr1
  refine ⟨a.fr, [], .ref F, rfl, rfl, hfr2, by show 0 < sizeLine; decide, ?_⟩
  have k3 := k2.push eF
  have kp3 : Kp H (upd H2 a.fr (.lst [.ref F])) a := (kp1.trans (Kp.same sm)).trans Kp.frs
  show tSeq _ _ _ _ (upd H2 a.fr (.lst [.ref F]))
  generalize upd H2 a.fr (.lst [.ref F]) = H3 at k3 kp3 ⊢
  obtain ⟨dx3, e3⟩ := k3.ob
  repeat wtm_at "g"
  refine ⟨a, s, _, tk, "FSTRING_START", n + 3, rfl, k3, hz, hl, fun H4 k4 kp4 => ?_⟩
  repeat wtm_at "g"
  exact q H4 k4 (kp3.trans kp4)
end
section
variable {K : PySem.W.Frag} {P : Program} {w : World} {base : Heap} {mg : Str → Option Value}
/-- what a word may be: a name, a plain string with a prefix, the beginning of a formatted string -/
inductive WordR (s : S) : Option Str → List Tk → S → Option Str → List Tk → Prop
  | name (fq : Option Str) (tk : List Tk) (e c : Nat) : nameEnd (tl s.tx) s.at_ = e → (tl s.tx)[e]? = some c → c ≠ 39 → c ≠ 34 → WordR s fq tk (sLex s e) fq (tk ++ [tTk "NAME" s e])
  | str (fq : Option Str) (tk : List Tk) (n c : Nat) (y : Str) (k : Nat) : nameEnd (tl s.tx) s.at_ = n → (tl s.tx)[n]? = some c → (c = 39 ∨ c = 34) → inV (.str (Txt.lower (cut s.tx s.at_ n))) (l_PLAIN_PREFIXES.map V.str) = true →
      QuoteAt s.tx n c y → StrEnd (tl s.tx) (tl y) (n + y.length) k → WordR s fq tk (sLex s (k + y.length)) fq (tk ++ [tTk "STRING" s (k + y.length)])
  | fst (tk : List Tk) (n c : Nat) : s.at_ = 0 → nameEnd (tl s.tx) s.at_ = n → (tl s.tx)[n]? = some c → (c = 39 ∨ c = 34) → inV (.str (Txt.lower (cut s.tx s.at_ n))) (l_PLAIN_PREFIXES.map V.str) = false →
      inV (.str (Txt.lower (cut s.tx s.at_ n))) (l_FORMATTED_PREFIXES.map V.str) = true → ((tl s.tx).drop n).take 3 = [c, c, c] → WordR s none tk (sLex s (n + 3)) (some ⟨#[c, c, c]⟩) (tk ++ [tTk "FSTRING_START" s (n + 3)])
/-- a plain operator -/
structure OpAt (s : S) (sg : Str) : Prop where
  more : l_OPERATORS.any (opMore (cut s.tx s.at_ (s.at_ + 3))) = false
  fnd : l_OPERATORS.find? (fun g => Txt.startswith (cut s.tx s.at_ (s.at_ + 3)) g) = some sg
  one : sg.length = 1
/-- what a lexeme may be -/
inductive LexR (s : S) (c : Nat) : Option Str → List Tk → S → Option Str → List Tk → Prop
  | word {fq tk s' fq' tk'} : c ∈ tl "abcdefghijklmnopqrstuvwxyzABCDEFGHIJKLMNOPQRSTUVWXYZ_" → WordR s fq tk s' fq' tk' → LexR s c fq tk s' fq' tk'
  | str (fq : Option Str) (tk : List Tk) (y : Str) (k : Nat) : (c = 39 ∨ c = 34) → QuoteAt s.tx s.at_ c y → StrEnd (tl s.tx) (tl y) (s.at_ + y.length) k → LexR s c fq tk (sLex s (k + y.length)) fq (tk ++ [tTk "STRING" s (k + y.length)])
  | op (tk : List Tk) (sg : Str) : c = 43 → OpAt s sg → LexR s c none tk (sLex s (s.at_ + 1)) none (tk ++ [tTk "OP" s (s.at_ + 1)])
section
variable (C CF : Addr)
def sp_read_word : Sp := fun vs H Q _ => ∃ (a : Ad) (s : S) (fq : Option Str) (tk : List Tk) (s' : S) (fq' : Option Str) (tk' : List Tk), vs = [.ref a.p] ∧ SA C CF H a s fq tk ∧ s.tx.length ≤ 5000 ∧ tk.length ≤ 1000 ∧ s.final = false ∧ s.at_ ≤ s.tx.length ∧
  WordR s fq tk s' fq' tk' ∧ Post C CF a H s' fq' tk' Q (.bl true)
def sp_read_operator : Sp := fun vs H Q _ => ∃ (a : Ad) (s : S) (tk : List Tk) (sg : Str), vs = [.ref a.p, .str ⟨#[43]⟩] ∧ SA C CF H a s none tk ∧ s.tx.length ≤ 5000 ∧ tk.length ≤ 1000 ∧ s.final = false ∧
  OpAt s sg ∧ Post C CF a H (sLex s (s.at_ + 1)) none (tk ++ [tTk "OP" s (s.at_ + 1)]) Q (.bl true)
def sp_read_lexeme : Sp := fun vs H Q _ => ∃ (a : Ad) (s : S) (c : Nat) (fq : Option Str) (tk : List Tk) (s' : S) (fq' : Option Str) (tk' : List Tk), vs = [.ref a.p, .str ⟨#[c]⟩] ∧ SA C CF H a s fq tk ∧ s.tx.length ≤ 5000 ∧ tk.length ≤ 1000 ∧ s.final = false ∧
  (tl s.tx)[s.at_]? = some c ∧ LexR s c fq tk s' fq' tk' ∧ Post C CF a H s' fq' tk' Q (.bl true)
end
theorem flat_strs : ∀ l : List Str, (l.map V.str).all flatV = true
  | [] => rfl
  | _ :: r => flat_strs r
theorem isQuote {c : Nat} (h : c = 39 ∨ c = 34) : decide (c ∈ tl "'\"") = true := by
  rw [tlQuotes]
  rcases h with rfl | rfl <;> decide
theorem notQuote {c : Nat} (h1 : c ≠ 39) (h2 : c ≠ 34) : decide (c ∈ tl "'\"") = false := by
  rw [tlQuotes]
  simp [h1, h2]
theorem ok_read_word (T : Top K mg) (O_name_end : Ok P w K mg base 2 "name_end" p_name_end sp_name_end) (O_read_string : OkM P w K mg base 3 "Scanner" "read_string" p_Scanner_read_string (sp_read_string (cS K) (cF K)))
    (O_begin_string : OkM P w K mg base 3 "Scanner" "begin_string" p_Scanner_begin_string (sp_begin_string (cS K) (cF K))) (O_add_lexeme : OkM P w K mg base 2 "Scanner" "add_lexeme" p_Scanner_add_lexeme (sp_add_lexeme (cS K) (cF K))) :
    OkM P w K mg base 4 "Scanner" "read_word" p_Scanner_read_word (sp_read_word (cS K) (cF K)) := by
  refine mkOkM T.d_Scanner_read_word T.m_read_word T.c_Scanner sc_Scanner_read_word b_Scanner_read_word (fun vs H Q E h => ?_) (fun f cdv A outer s H vs Q E hr h => ?_)
  · obtain ⟨a, s, fq, tk, s', fq', tk', rfl, _⟩ := h
    rfl
  obtain ⟨a, s, fq, tk, s', fq', tk', rfl, h, hz, hl, hfin, hat, hR, q⟩ := h
  obtain ⟨dx, e1⟩ := h.ob
  refine ⟨_, (pss_cons (ps_set (i := 1) sc_Scanner_read_word.nd rfl (Or.inl rfl) (pc O_name_end hr rfl (pa_cons (pe_fld (pv 0) rfl) (pa_cons (pe_fld (pv 0) rfl) pa_nil)))) (pss_cons (ps_if (PW.pt (pw_and (pt_cmpR op_eq (pv 1) (pe_callB cr_lnS rfl T.f_len PySem.boot_len (pa_cons (pe_fld (pv 0) rfl) pa_nil)) (nomark _)) (pw_and1 (pt_not (pt_val (pe_fld (pv 0) rfl)))))) (pss_one (ps_ret pe_bl)) pss_nil) (pss_cons (ps_set (i := 2) sc_Scanner_read_word.nd rfl (Or.inl rfl) (pe_lower (pe_slice sl_str (pe_fld (pv 0) rfl) (po_some (pe_fld (pv 0) rfl)) (po_some (pv 1))))) (pss_cons (ps_if (PW.pt (pw_and (pt_cmpR op_lt (pv 1) (pe_callB cr_lnS rfl T.f_len PySem.boot_len (pa_cons (pe_fld (pv 0) rfl) pa_nil)) (nomark _)) (pw_and1 (pt_cmpR op_inS (pe_ix ix_str (pe_fld (pv 0) rfl) (pv 1) (fun _ _ => rfl)) (pgS T.s_QUOTES rfl) rfl)))) (pss_cons (ps_if (pt_cmpR op_in_seq (pv 2) (pgR T.g_PLAIN_PREFIXES rfl) rfl) (pss_one (ps_ret (pm O_read_string hr (pv 0) (pa_cons (pv 1) pa_nil)))) pss_nil) (pss_one (ps_if (pt_cmpR op_in_seq (pv 2) (pgR T.g_FORMATTED_PREFIXES rfl) rfl) (pss_one (ps_ret (pm O_begin_string hr (pv 0) (pa_cons (pv 1) pa_nil)))) pss_nil))) pss_nil) (pss_cons (ps_expr (pm O_add_lexeme hr (pv 0) (pa_cons pe_str (pa_cons (pv 1) pa_nil)))) (pss_one (ps_ret pe_bl))))))), ?_⟩
  try dsimp only [cxOf]
  refine g_start (σ := [some _, none, none]) rfl ?_
  repeat wtm_at "g"
  refine ⟨s.tx, s.at_, rfl, hz, hat, ?_⟩
  have low : ∀ n, (cut s.tx s.at_ n).length ≤ 5592405 := fun n => Nat.le_trans (cut_len _ _ _) (by omega)
  cases hR with
  | name _ _ e c he hc h1 h2 =>
    have hlt : e < s.tx.length := by
      rw [len_tl]
      exact (List.getElem?_eq_some_iff.mp hc).1
    rw [he]
    repeat wtm_at "g"
    refine g_ifF (decide_eq_false fun z => by injection z with z; omega) ?_
    refine g_ifF rfl ?_
    repeat wtm_at "g"
    rw [cut_eq]
    refine ⟨_, rfl, rfl, low _, ?_⟩
    repeat wtm_at "g"
    refine g_ifT (decide_eq_true (by omega)) ?_
    repeat wtm_at "g"
    refine g_ifF (notQuote h1 h2) ?_
    repeat wtm_at "g"
    refine ⟨a, s, fq, tk, "NAME", e, rfl, h, hz, hl, fun H3 k3 kp3 => ?_⟩
    repeat wtm_at "g"
    exact q H3 k3 kp3
  | str _ _ n c y k he hc h1 h2 hQ hE =>
    have hlt : n < s.tx.length := by
      rw [len_tl]
      exact (List.getElem?_eq_some_iff.mp hc).1
    rw [he]
    repeat wtm_at "g"
    refine g_ifF (decide_eq_false fun z => by injection z with z; omega) ?_
    refine g_ifF rfl ?_
    repeat wtm_at "g"
    rw [cut_eq]
    refine ⟨_, rfl, rfl, low _, ?_⟩
    repeat wtm_at "g"
    refine g_ifT (decide_eq_true (by omega)) ?_
    repeat wtm_at "g"
    refine g_ifT (isQuote h1) ?_
    repeat wtm_at "g"
    refine g_inQ (.inr (T.t_PLAIN_PREFIXES H)) rfl (flat_strs _) ?_
    repeat wtm_at "g"
    refine g_ifT h2 ?_
    repeat wtm_at "g"
    exact ⟨a, s, fq, tk, n, c, y, k, rfl, h, hz, hl, hfin, hc, hQ, hE, q⟩
  | fst _ n c h0 he hc h1 h2 h3 h4 =>
    have hlt : n < s.tx.length := by
      rw [len_tl]
      exact (List.getElem?_eq_some_iff.mp hc).1
    rw [he]
    repeat wtm_at "g"
    refine g_ifF (decide_eq_false fun z => by injection z with z; omega) ?_
    refine g_ifF rfl ?_
    repeat wtm_at "g"
    rw [cut_eq]
    refine ⟨_, rfl, rfl, low _, ?_⟩
    repeat wtm_at "g"
    refine g_ifT (decide_eq_true (by omega)) ?_
    repeat wtm_at "g"
    refine g_ifT (isQuote h1) ?_
    repeat wtm_at "g"
    refine g_inQ (.inr (T.t_PLAIN_PREFIXES H)) rfl (flat_strs _) ?_
    repeat wtm_at "g"
    refine g_ifF h2 ?_
    repeat wtm_at "g"
    refine g_inQ (.inr (T.t_FORMATTED_PREFIXES H)) rfl (flat_strs _) ?_
    repeat wtm_at "g"
    refine g_ifT h3 ?_
    repeat wtm_at "g"
    exact ⟨a, s, tk, n, c, rfl, h, hz, hl, hfin, h0, hc, h4, q⟩
theorem ok_read_operator (T : Top K mg) (O_operator_end : Ok P w K mg base 1 "operator_end" p_operator_end sp_operator_end) (O_add_lexeme : OkM P w K mg base 2 "Scanner" "add_lexeme" p_Scanner_add_lexeme (sp_add_lexeme (cS K) (cF K))) :
    OkM P w K mg base 3 "Scanner" "read_operator" p_Scanner_read_operator (sp_read_operator (cS K) (cF K)) := by
  refine mkOkM T.d_Scanner_read_operator T.m_read_operator T.c_Scanner sc_Scanner_read_operator b_Scanner_read_operator (fun vs H Q E h => ?_) (fun f cdv A outer s H vs Q E hr h => ?_)
  · obtain ⟨a, s, tk, sg, rfl, _⟩ := h
    rfl
  obtain ⟨a, s, tk, sg, rfl, h, hz, hl, hfin, hO, q⟩ := h
  obtain ⟨dx, e1⟩ := h.ob
  have hfr : H a.fr = some (.lst []) := h.fr
  refine ⟨_, (pss_cons (ps_set (i := 2) sc_Scanner_read_operator.nd rfl (Or.inl rfl) (pe_and (pe_cmpR (op_neNil hr.units) (pe_fld (pv 0) rfl) (pe_lst pa_nil) (nomark _)) (pe_one (pe_cmpR op_eq (pe_fld (pe_ix ix_list (pe_fld (pv 0) rfl) (pe_un un_neg pe_int) (fun _ _ => rfl)) rfl) pe_str (nomark _))))) (pss_cons (ps_if (PW.pt (pw_and (pt_val (pv 2)) (pw_and1 (pt_cmpR op_eq (pv 1) pe_str (nomark _))))) pss_never pss_nil) (pss_cons (ps_set (i := 4) sc_Scanner_read_operator.nd rfl (Or.inl rfl) (pc O_operator_end hr rfl (pa_cons (pe_fld (pv 0) rfl) (pa_cons (pe_fld (pv 0) rfl) (pa_cons (pe_fld (pv 0) rfl) pa_nil))))) (pss_cons (ps_if (pt_cmpR op_eq (pv 4) (pgI T.i_MORE rfl) (nomark _)) (pss_one (ps_ret pe_bl)) pss_nil) (pss_cons (ps_if (PW.pt (pw_and (pt_cmpR op_eq (pv 4) (pgI T.i_WRONG rfl) (nomark _)) (pw_and (pt_val (pv 2)) (pw_and1 (pt_cmpR op_eq (pv 1) pe_str (nomark _)))))) pss_never pss_nil) (pss_cons (ps_if (pt_cmpR op_eq (pv 4) (pgI T.i_WRONG rfl) (nomark _)) pss_never pss_nil) (pss_cons (ps_if (pt_cmpR op_inS (pv 1) pe_str rfl) pss_never pss_nil) (pss_cons (ps_if (pt_cmpR op_inS (pv 1) pe_str rfl) pss_never pss_nil) (pss_cons (ps_expr (pm O_add_lexeme hr (pv 0) (pa_cons pe_str (pa_cons (pv 4) pa_nil)))) (pss_one (ps_ret pe_bl))))))))))), ?_⟩
  try dsimp only [cxOf]
  refine g_start (σ := [some _, some _, none, none, none]) rfl ?_
  repeat wtm_at "g"
  refine ⟨Nat.zero_le _, fun B hB => ?_⟩
  repeat wtm_at "g"
  refine g_neNil (xs := []) (SqL.of ?_) (SqL.of upd_same) ?_
  · rw [upd_ne (ne_of_none hfr hB)]
    exact hfr
  have k1 := h.new (o := .lst []) hB
  have kp1 : Kp H (upd H B (.lst [])) a := Kp.new hB
  generalize upd H B (.lst []) = H1 at k1 kp1 ⊢
  obtain ⟨dx1, e2⟩ := k1.ob
  repeat wtm_at "g"
  refine g_ifF rfl ?_
  repeat wtm_at "g"
  refine g_ifF rfl ?_
  refine g_ifF rfl ?_
  repeat wtm_at "g"
  rw [hfin]
  refine ⟨s.tx, s.at_, sg, rfl, hz, hO.more, hO.fnd, fun H2 sm => ?_⟩
  have k2 := k1.same sm
  have kp2 : Kp H H2 a := kp1.trans (Kp.same sm)
  obtain ⟨dx2, e3⟩ := k2.ob
  rw [hO.one]
  repeat wtm_at "g"
  refine g_ifF (ne_neg _ _ (by decide)) ?_
  repeat wtm_at "g"
  refine g_ifF (ne_neg _ _ (by decide)) ?_
  refine g_ifF rfl ?_
  repeat wtm_at "g"
  refine g_ifF (ne_neg _ _ (by decide)) ?_
  repeat wtm_at "g"
  refine g_ifF (by decide +kernel) ?_
  repeat wtm_at "g"
  refine g_ifF (by decide +kernel) ?_
  repeat wtm_at "g"
  refine ⟨a, s, none, tk, "OP", s.at_ + 1, rfl, k2, hz, hl, fun H3 k3 kp3 => ?_⟩
  repeat wtm_at "g"
  exact q H3 k3 (kp2.trans kp3)
theorem ok_read_lexeme (T : Top K mg) (O_read_word : OkM P w K mg base 4 "Scanner" "read_word" p_Scanner_read_word (sp_read_word (cS K) (cF K))) (O_read_string : OkM P w K mg base 3 "Scanner" "read_string" p_Scanner_read_string (sp_read_string (cS K) (cF K)))
    (O_read_operator : OkM P w K mg base 3 "Scanner" "read_operator" p_Scanner_read_operator (sp_read_operator (cS K) (cF K))) : OkM P w K mg base 5 "Scanner" "read_lexeme" p_Scanner_read_lexeme (sp_read_lexeme (cS K) (cF K)) := by
  refine mkOkM T.d_Scanner_read_lexeme T.m_read_lexeme T.c_Scanner sc_Scanner_read_lexeme b_Scanner_read_lexeme (fun vs H Q E h => ?_) (fun f cdv A outer s H vs Q E hr h => ?_)
  · obtain ⟨a, s, c, fq, tk, s', fq', tk', rfl, _⟩ := h
    rfl
  obtain ⟨a, s, c, fq, tk, s', fq', tk', rfl, h, hz, hl, hfin, hc, hR, q⟩ := h
  obtain ⟨dx, e1⟩ := h.ob
  have hlt : s.at_ < s.tx.length := by
    rw [len_tl]
    exact (List.getElem?_eq_some_iff.mp hc).1
  refine ⟨_, (pss_cons (ps_if (pt_cmpR op_inS (pv 1) (pgS T.s_LETTERS rfl) rfl) (pss_one (ps_ret (pm0 O_read_word hr (pv 0)))) pss_nil) (pss_cons (ps_if (pt_cmpR op_inS (pv 1) (pgS T.s_QUOTES rfl) rfl) (pss_one (ps_ret (pm O_read_string hr (pv 0) (pa_cons (pe_fld (pv 0) rfl) pa_nil)))) pss_nil) (pss_cons (ps_set (i := 2) sc_Scanner_read_lexeme.nd rfl (Or.inl rfl) (pe_slice sl_str (pe_fld (pv 0) rfl) (po_some (pe_op op_add (pe_fld (pv 0) rfl) pe_int)) (po_some (pe_op op_add (pe_fld (pv 0) rfl) pe_int)))) (pss_cons (ps_if (PW.pt (pw_or (pt_cmpR op_inS (pv 1) (pgS T.s_DIGITS rfl) rfl) (pw_or1 (PW.pt (pw_and (pt_cmpR op_eq (pv 1) pe_str (nomark _)) (pw_and (pt_cmpR op_ne (pv 2) pe_str (nomark _)) (pw_and1 (pt_cmpR op_inS (pv 2) (pgS T.s_DIGITS rfl) rfl)))))))) pss_never pss_nil) (pss_one (ps_ret (pm O_read_operator hr (pv 0) (pa_cons (pv 1) pa_nil)))))))), ?_⟩
  try dsimp only [cxOf]
  refine g_start (σ := [some _, some _, none, none]) rfl ?_
  repeat wtm_at "g"
  cases hR with
  | word h1 h2 =>
    refine g_ifT (decide_eq_true h1) ?_
    repeat wtm_at "g"
    exact ⟨a, s, fq, tk, _, _, _, rfl, h, hz, hl, hfin, by omega, h2, q⟩
  | str _ _ y k h1 hQ hE =>
    refine g_ifF (by rcases h1 with rfl | rfl <;> decide +kernel) ?_
    repeat wtm_at "g"
    refine g_ifT (isQuote h1) ?_
    repeat wtm_at "g"
    exact ⟨a, s, fq, tk, s.at_, c, y, k, rfl, h, hz, hl, hfin, hc, hQ, hE, q⟩
  | op _ sg h1 hO =>
    subst h1
    refine g_ifF (by decide +kernel) ?_
    repeat wtm_at "g"
    refine g_ifF (notQuote (by decide) (by decide)) ?_
    repeat wtm_at "g"
    refine g_ifF (by decide +kernel) ?_
    repeat wtm_at "g"
    refine g_ifF (by decide +kernel) ?_
    refine g_ifF rfl ?_
    repeat wtm_at "g"
    exact ⟨a, s, tk, sg, rfl, h, hz, hl, hfin, hO, q⟩
end
section
variable {K : PySem.W.Frag} {P : Program} {w : World} {base : Heap} {mg : Str → Option Value}
/-- a part of a formatted string with the quote q, from i on up to k -/
inductive PartRun (l q : List Nat) : Nat → Nat → Prop
  | stop (k c : Nat) : l[k]? = some c → c ≠ 92 → (l.drop k).take q.length = q → PartRun l q k k
  | one (i k c : Nat) : l[i]? = some c → c ≠ 92 → c ≠ 123 → c ≠ 125 → (l.drop i).take q.length ≠ q → PartRun l q (i + 1) k → PartRun l q i k
  | two (i k c : Nat) : l[i]? = some c → c = 123 ∨ c = 125 → l[i + 1]? = some c → (l.drop i).take q.length ≠ q → PartRun l q (i + 2) k → PartRun l q i k
theorem PartRun.lt {l q : List Nat} {i k : Nat} (h : PartRun l q i k) : i ≤ k ∧ k < l.length := by
  induction h with
  | stop k c hc _ _ => exact ⟨Nat.le_refl _, (List.getElem?_eq_some_iff.mp hc).1⟩
  | one i k c _ _ _ _ _ _ ih => exact ⟨by omega, ih.2⟩
  | two i k c _ _ _ _ _ ih => exact ⟨by omega, ih.2⟩
theorem PartRun.at_ {l q : List Nat} {i k : Nat} (h : PartRun l q i k) : (l.drop k).take q.length = q := by
  induction h with
  | stop k c _ _ e => exact e
  | one i k c _ _ _ _ _ _ ih => exact ih
  | two i k c _ _ _ _ _ ih => exact ih
section
variable (C CF : Addr)
/-- the state behind a part: the same, or with the part's token -/
def sPart (s : S) (k : Nat) : S := { s with at_ := k, join := if s.at_ < k then -1 else s.join }
def tPartTk (s : S) (k : Nat) : List Tk := if s.at_ < k then [tTk "FSTRING_MIDDLE" s k] else []
def sp_add_part : Sp := fun vs H Q _ => ∃ (a : Ad) (s : S) (fq : Option Str) (tk : List Tk) (k : Nat), vs = [.ref a.p, .int (k : Int)] ∧ SA C CF H a s fq tk ∧ s.tx.length ≤ 5000 ∧ tk.length ≤ 1000 ∧ s.at_ ≤ k ∧
  Post C CF a H (sPart s k) fq (tk ++ tPartTk s k) Q .non
def sp_part_end : Sp := fun vs H Q _ => ∃ (a : Ad) (s : S) (fq : Option Str) (tk : List Tk) (F dF : Addr) (y : Str) (k : Nat), vs = [.ref a.p, .ref F] ∧ SA C CF H a s fq tk ∧ H F = some (.ins CF dF (ff 0 y)) ∧ s.tx.length ≤ 5000 ∧ s.final = false ∧ y.length = 3 ∧
  PartRun (tl s.tx) (tl y) s.at_ k ∧ Q (.int (k : Int)) H
def sp_read_part : Sp := fun vs H Q _ => ∃ (a : Ad) (s : S) (tk : List Tk) (F dF : Addr) (c k : Nat), vs = [.ref a.p, .ref F] ∧ SA C CF H a s (some ⟨#[c, c, c]⟩) tk ∧ H a.fr = some (.lst [.ref F]) ∧ H F = some (.ins CF dF (ff 0 ⟨#[c, c, c]⟩)) ∧ s.tx.length ≤ 5000 ∧ tk.length ≤ 900 ∧ s.final = false ∧
  c ≠ 123 ∧ c ≠ 125 ∧ PartRun (tl s.tx) [c, c, c] s.at_ k ∧ Post C CF a H { s with at_ := k + 3, join := -1 } none (tk ++ tPartTk s k ++ [(("FSTRING_END" : Str), cut s.tx k (k + 3), k)]) Q (.bl true)
end
theorem ok_add_part (T : Top K mg) (O_add : OkM P w K mg base 1 "Scanner" "add" p_Scanner_add (sp_add (cS K) (cF K))) : OkM P w K mg base 2 "Scanner" "add_part" p_Scanner_add_part (sp_add_part (cS K) (cF K)) := by
  refine mkOkM T.d_Scanner_add_part T.m_add_part T.c_Scanner sc_Scanner_add_part b_Scanner_add_part (fun vs H Q E h => ?_) (fun f cdv A outer s H vs Q E hr h => ?_)
  · obtain ⟨a, s, fq, tk, k, rfl, _⟩ := h
    rfl
  obtain ⟨a, s, fq, tk, k, rfl, h, hz, hl, hk, q⟩ := h
  obtain ⟨dx, e1⟩ := h.ob
  refine ⟨_, (pss_one (ps_if (pt_cmpR op_gt (pv 1) (pe_fld (pv 0) rfl) (nomark _)) (pss_one (ps_expr (pm O_add hr (pv 0) (pa_cons pe_str (pa_cons (pv 1) pa_nil))))) pss_nil)), ?_⟩
  try dsimp only [cxOf]
  refine g_start (σ := [some _, some _]) rfl ?_
  repeat wtm_at "g"
  by_cases hlt : s.at_ < k
  · refine g_ifT (decide_eq_true (by omega)) ?_
    repeat wtm_at "g"
    refine ⟨a, s, fq, tk, "FSTRING_MIDDLE", k, rfl, h, hz, hl, ?_⟩
    unfold sPart tPartTk at q
    rw [if_pos hlt, if_pos hlt] at q
    exact q
  · refine g_ifF (decide_eq_false (by omega)) ?_
    repeat wtm_at "g"
    unfold sPart tPartTk at q
    rw [if_neg hlt, if_neg hlt, List.append_nil] at q
    have e : k = s.at_ := by omega
    subst e
    exact q H h (Kp.refl _ _)
theorem sg_ne {x : Str} {l : List Nat} {c : Nat} (hx : tl x = c :: l) {y : Str} {d : Nat} (hy : tl y = [d]) (h : c ≠ d) : decide (V.str x = V.str y) = false := decide_eq_false fun e => by
  injection e with e
  rw [e, hy] at hx
  exact h (List.cons.inj hx).1.symm
theorem braces {c : Nat} : decide (c ∈ tl "{}") = (c == 123 || c == 125) := by
  have e : tl "{}" = [123, 125] := by decide +kernel
  rw [e]
  by_cases h1 : c = 123
  · subst h1
    decide
  · by_cases h2 : c = 125
    · subst h2
      decide
    · simp [h1, h2]
theorem ok_part_end (T : Top K mg) : OkM P w K mg base 1 "Scanner" "part_end" p_Scanner_part_end (sp_part_end (cS K) (cF K)) := by
  refine mkOkM T.d_Scanner_part_end T.m_part_end T.c_Scanner sc_Scanner_part_end b_Scanner_part_end (fun vs H Q E h => ?_) (fun f cdv A outer s H vs Q E hr h => ?_)
  · obtain ⟨a, s, fq, tk, F, dF, y, k, rfl, _⟩ := h
    rfl
  obtain ⟨a, s, fq, tk, F, dF, y, k, rfl, h, hF, hz, hfin, hy, hP, q⟩ := h
  obtain ⟨dx, e1⟩ := h.ob
  have hys : y.length ≤ sizeLine := szL (by omega)
  refine ⟨_, (pss_cons (ps_par3 (i := 2) (j := 3) (l := 4) rfl sc_Scanner_part_end.nd rfl rfl rfl (by decide) (by decide) (by decide) rfl rfl rfl (pa_cons (pe_fld (pv 0) rfl) (pa_cons (pe_fld (pv 1) rfl) (pa_cons (pe_fld (pv 0) rfl) pa_nil))) rfl) (pss_cons (ps_while PassesOwn.never (pt_cmpR op_lt (pv 4) (pe_callB cr_lnS rfl T.f_len PySem.boot_len (pa_cons (pv 2) pa_nil)) (nomark _)) (pss_cons (ps_set (i := 5) sc_Scanner_part_end.nd rfl (Or.inl rfl) (pe_slice sl_str (pv 2) (po_some (pv 4)) (po_some (pe_op op_add (pv 4) pe_int)))) (pss_cons (ps_if (PW.pt (pw_and (pt_cmpR op_eq (pv 5) pe_str (nomark _)) (pw_and1 (pt_not (pt_val (pe_fld (pv 0) rfl)))))) (pss_one (ps_ret (pgI T.i_MORE rfl))) pss_nil) (pss_one (ps_if (pt_cmpR op_eq (pe_ix ix_str (pv 2) (pv 4) (fun _ _ => rfl)) pe_str (nomark _)) pss_never (pss_one (ps_if (pt_cmpR op_eq (pe_slice sl_str (pv 2) (po_some (pv 4)) (po_some (pe_op op_add (pv 4) (pe_callB cr_lnS rfl T.f_len PySem.boot_len (pa_cons (pv 3) pa_nil))))) (pv 3) (nomark _)) (pss_one (ps_ret (pv 4))) (pss_one (ps_if (PW.pt (pw_and (pt_cmpR op_eq (pe_ix ix_str (pv 2) (pv 4) (fun _ _ => rfl)) pe_str (nomark _)) (pw_and1 (pt_cmpR op_eq (pe_callB cr_lnS rfl T.f_len PySem.boot_len (pa_cons (pv 3) pa_nil)) pe_int (nomark _))))) (pss_one (ps_ret (pgI T.i_WRONG rfl))) (pss_one (ps_if (PW.pt (pw_and (pt_cmpR op_inS (pe_ix ix_str (pv 2) (pv 4) (fun _ _ => rfl)) pe_str rfl) (pw_and (pt_cmpR op_eq (pe_fld (pv 1) rfl) pe_str (nomark _)) (pw_and1 (pt_cmpR op_eq (pv 5) (pe_op op_mulS (pe_ix ix_str (pv 2) (pv 4) (fun _ _ => rfl)) pe_int) (nomark _)))))) (pss_one (ps_aug (i := 4) sc_Scanner_part_end.nd rfl (Or.inl rfl) pe_int ip_add)) (pss_one (ps_if (PW.pt (pw_and (pt_cmpR op_inS (pe_ix ix_str (pv 2) (pv 4) (fun _ _ => rfl)) pe_str rfl) (pw_and (pt_cmpR op_eq (pe_fld (pv 1) rfl) pe_str (nomark _)) (pw_and (pt_cmpR op_eq (pe_callB cr_lnS rfl T.f_len PySem.boot_len (pa_cons (pv 5) pa_nil)) pe_int (nomark _)) (pw_and1 (pt_not (pt_val (pe_fld (pv 0) rfl)))))))) (pss_one (ps_ret (pgI T.i_MORE rfl))) (pss_one (ps_if (pt_cmpR op_inS (pe_ix ix_str (pv 2) (pv 4) (fun _ _ => rfl)) pe_str rfl) (pss_one (ps_ret (pv 4))) (pss_one (ps_aug (i := 4) sc_Scanner_part_end.nd rfl (Or.inl rfl) pe_int ip_add))))))))))))))))) (pss_one (ps_ret (pe_ifExp (pt_val (pe_fld (pv 0) rfl)) (pgI T.i_WRONG rfl) (pgI T.i_MORE rfl)))))), ?_⟩
  try dsimp only [cxOf]
  refine g_start (σ := [some _, some _, none, none, none, none]) rfl ?_
  repeat wtm_at "g"
  have hkl : k < s.tx.length := by
    rw [len_tl]
    exact hP.lt.2
  refine ⟨fun m σ H' => H' = H ∧ ∃ (i : Nat) (v : Option V), σ = [some (.ref a.p), some (.ref F), some (.str s.tx), some (.str y), some (.int (i : Int)), v] ∧ PartRun (tl s.tx) (tl y) i k ∧ m = s.tx.length - i, ⟨_, rfl, _, none, rfl, hP, rfl⟩, ?_⟩
  rintro m σ H' ⟨rfl, i, v, rfl, hR, rfl⟩
  have hik := hR.lt.1
  repeat wtm_at "g"
  refine g_ifT (decide_eq_true (by omega)) ?_
  obtain ⟨c, hc⟩ := at_lt (show i < s.tx.length by omega)
  refine ⟨fun σ' H'' => H'' = H' ∧ ∃ (j : Nat) (v : Option V), σ' = [some (.ref a.p), some (.ref F), some (.str s.tx), some (.str y), some (.int (j : Int)), v] ∧ PartRun (tl s.tx) (tl y) j k ∧ i < j, fun σ' H'' h' => ?_, ?_⟩
  · obtain ⟨e0, j, v', e3, e4, e5⟩ := h'
    have := e4.lt.1
    exact ⟨s.tx.length - j, by omega, e0, j, v', e3, e4, rfl⟩
  repeat wtm_at "g"
  rw [show ((i : Int) + 2) = (i : Int) + ((2 : Nat) : Int) from rfl, cut_add]
  obtain ⟨hil, hce⟩ := List.getElem?_eq_some_iff.mp hc
  have hd : (tl s.tx).drop i = c :: (tl s.tx).drop (i + 1) := by
    rw [List.drop_eq_getElem_cons hil, hce]
  have hre : tl (cut s.tx i (i + 2)) = c :: ((tl s.tx).drop (i + 1)).take 1 := by
    rw [tl_win, hd]
    rfl
  have e92 : tl "\\" = [92] := by decide +kernel
  have hw : tl (cut s.tx i (i + y.length)) = ((tl s.tx).drop i).take (tl y).length := by
    rw [tl_win, len_tl y]
  have hcl : (cut s.tx i (i + 2)).length ≤ sizeLine := szL (Nat.le_trans (cut_len _ _ _) (by omega))
  have next : ∀ {j : Nat}, PartRun (tl s.tx) (tl y) j k → i < j → H' = H' ∧ ∃ (j' : Nat) (v : Option V), [some (V.ref a.p), some (V.ref F), some (V.str s.tx), some (V.str y), some (V.int (j : Int)), some (V.str (cut s.tx i (i + 2)))] = [some (.ref a.p), some (.ref F), some (.str s.tx), some (.str y), some (.int (j' : Int)), v] ∧ PartRun (tl s.tx) (tl y) j' k ∧ i < j' :=
    fun {j} p l => ⟨rfl, j, _, rfl, p, l⟩
  have n10 : ¬ (V.int (y.length : Int) = V.int 1) := fun z => by injection z with z; omega
  cases hR with
  | stop _ c' hc' h92 hat =>
    rw [hc] at hc'
    cases Option.some.inj hc'
    repeat wtm_at "g"
    refine g_ifF (sg_ne hre e92 h92) ?_
    refine g_ifF rfl ?_
    repeat wtm_at "g"
    refine g_ifF (sg_ne (x := ⟨#[c]⟩) (l := []) rfl e92 h92) ?_
    repeat wtm_at "g"
    rw [cut_add]
    refine g_ifT (decide_eq_true (congrArg V.str (ext_tl (hw.trans hat)))) ?_
    repeat wtm_at "g"
    exact q
  | one _ _ c' hc' h92 h1 h2 hat hn =>
    rw [hc] at hc'
    cases Option.some.inj hc'
    have hb : decide (c ∈ tl "{}") = false := by
      rw [braces]
      simp [h1, h2]
    repeat wtm_at "g"
    refine g_ifF (sg_ne hre e92 h92) ?_
    refine g_ifF rfl ?_
    repeat wtm_at "g"
    refine g_ifF (sg_ne (x := ⟨#[c]⟩) (l := []) rfl e92 h92) ?_
    repeat wtm_at "g"
    rw [cut_add]
    refine g_ifF (decide_eq_false fun e => hat ?_) ?_
    · injection e with e
      rw [← hw, e]
    repeat wtm_at "g"
    refine g_if2 (fun h10 => ?_) (fun h10 => ?_)
    · repeat wtm_at "g"
      refine g_ifF (decide_eq_false n10) ?_
      repeat wtm_at "g"
      refine g_ifF hb ?_
      refine g_ifF rfl ?_
      repeat wtm_at "g"
      refine g_ifF hb ?_
      refine g_ifF rfl ?_
      repeat wtm_at "g"
      refine g_ifF hb ?_
      repeat wtm_at "g"
      exact next (j := i + 1) hn (by omega)
    · refine g_ifF rfl ?_
      repeat wtm_at "g"
      refine g_ifF hb ?_
      refine g_ifF rfl ?_
      repeat wtm_at "g"
      refine g_ifF hb ?_
      refine g_ifF rfl ?_
      repeat wtm_at "g"
      refine g_ifF hb ?_
      repeat wtm_at "g"
      exact next (j := i + 1) hn (by omega)
  | two _ _ c' hc' h1 hc2 hat hn =>
    rw [hc] at hc'
    cases Option.some.inj hc'
    have h92 : c ≠ 92 := by rcases h1 with rfl | rfl <;> decide
    have hb : decide (c ∈ tl "{}") = true := by
      rw [braces]
      rcases h1 with rfl | rfl <;> rfl
    have hr2 : cut s.tx i (i + 2) = repS ⟨#[c]⟩ 2 := by
      rw [rep2]
      refine ext_tl ?_
      rw [hre]
      obtain ⟨hil2, hce2⟩ := List.getElem?_eq_some_iff.mp hc2
      rw [List.drop_eq_getElem_cons hil2, hce2]
      rfl
    repeat wtm_at "g"
    refine g_ifF (sg_ne hre e92 h92) ?_
    refine g_ifF rfl ?_
    repeat wtm_at "g"
    refine g_ifF (sg_ne (x := ⟨#[c]⟩) (l := []) rfl e92 h92) ?_
    repeat wtm_at "g"
    rw [cut_add]
    refine g_ifF (decide_eq_false fun e => hat ?_) ?_
    · injection e with e
      rw [← hw, e]
    repeat wtm_at "g"
    refine g_ifF (sg_ne (x := ⟨#[c]⟩) (l := []) (d := 10) rfl (by decide +kernel) (by rcases h1 with rfl | rfl <;> decide)) ?_
    refine g_ifF rfl ?_
    repeat wtm_at "g"
    refine g_ifT hb ?_
    repeat wtm_at "g"
    refine g_ifT rfl ?_
    repeat wtm_at "g"
    refine g_mulS (n := 2) (by decide) (one_len c) ?_
    repeat wtm_at "g"
    refine g_ifT (decide_eq_true (by rw [hr2])) ?_
    repeat wtm_at "g"
    exact next (j := i + 2) hn (by omega)
end
section
variable {K : PySem.W.Frag} {P : Program} {w : World} {base : Heap} {mg : Str → Option Value}
theorem ok_read_part (T : Top K mg) (O_part_end : OkM P w K mg base 1 "Scanner" "part_end" p_Scanner_part_end (sp_part_end (cS K) (cF K))) (O_add_part : OkM P w K mg base 2 "Scanner" "add_part" p_Scanner_add_part (sp_add_part (cS K) (cF K)))
    (O_add : OkM P w K mg base 1 "Scanner" "add" p_Scanner_add (sp_add (cS K) (cF K))) : OkM P w K mg base 3 "Scanner" "read_part" p_Scanner_read_part (sp_read_part (cS K) (cF K)) := by
  refine mkOkM T.d_Scanner_read_part T.m_read_part T.c_Scanner sc_Scanner_read_part b_Scanner_read_part (fun vs H Q E h => ?_) (fun f cdv A outer s H vs Q E hr h => ?_)
  · obtain ⟨a, s, tk, F, dF, c, k, rfl, _⟩ := h
    rfl
  obtain ⟨a, s, tk, F, dF, c, k, rfl, h, hfr, hF, hz, hl, hfin, h1, h2, hP, q⟩ := h
  obtain ⟨dx, e1⟩ := h.ob
  have hq3 : (⟨#[c, c, c]⟩ : Str).length ≤ sizeLine := szL (by show 3 ≤ 100000; decide)
  have hc : (tl s.tx)[k]? = some c := by
    have e := hP.at_
    have e2 : (((tl s.tx).drop k).take 3)[0]? = some c := by
      rw [show ((tl s.tx).drop k).take 3 = [c, c, c] from e]
      rfl
    rw [List.getElem?_take_of_lt (by decide), List.getElem?_drop] at e2
    exact e2
  refine ⟨_, (pss_cons (ps_set (i := 2) sc_Scanner_read_part.nd rfl (Or.inl rfl) (pm O_part_end hr (pv 0) (pa_cons (pv 1) pa_nil))) (pss_cons (ps_if (pt_cmpR op_eq (pv 2) (pgI T.i_MORE rfl) (nomark _)) (pss_one (ps_ret pe_bl)) pss_nil) (pss_cons (ps_if (pt_cmpR op_eq (pv 2) (pgI T.i_WRONG rfl) (nomark _)) pss_never pss_nil) (pss_cons (ps_expr (pm O_add_part hr (pv 0) (pa_cons (pv 2) pa_nil))) (pss_cons (ps_if (pt_cmpR op_eq (pe_ix ix_str (pe_fld (pv 0) rfl) (pv 2) (fun _ _ => rfl)) pe_str (nomark _)) pss_never pss_nil) (pss_cons (ps_if (pt_cmpR op_eq (pe_ix ix_str (pe_fld (pv 0) rfl) (pv 2) (fun _ _ => rfl)) pe_str (nomark _)) pss_never pss_nil) (pss_cons (ps_if (pt_cmpR op_eq (pe_fld (pv 1) rfl) pe_str (nomark _)) pss_never pss_nil) (pss_cons (ps_delL (pe_fld (pv 0) rfl) (pe_un un_neg pe_int)) (pss_cons (ps_expr (pm O_add hr (pv 0) (pa_cons pe_str (pa_cons (pe_op op_add (pv 2) (pe_callB cr_lnS rfl T.f_len PySem.boot_len (pa_cons (pe_fld (pv 1) rfl) pa_nil))) pa_nil)))) (pss_one (ps_ret pe_bl))))))))))), ?_⟩
  try dsimp only [cxOf]
  refine g_start (σ := [some _, some _, none, none, none]) rfl ?_
  repeat wtm_at "g"
  refine ⟨a, s, _, tk, F, dF, ⟨#[c, c, c]⟩, k, rfl, h, hF, hz, hfin, rfl, hP, ?_⟩
  repeat wtm_at "g"
  refine g_ifF (ne_neg _ _ (by decide)) ?_
  repeat wtm_at "g"
  refine g_ifF (ne_neg _ _ (by decide)) ?_
  repeat wtm_at "g"
  refine ⟨a, s, _, tk, k, rfl, h, hz, by omega, hP.lt.1, fun H1 k1 kp1 => ?_⟩
  have hF1 : H1 F = some (.ins (cF K) dF (ff 0 ⟨#[c, c, c]⟩)) := by
    obtain ⟨as, e3, _⟩ := h.fo
    exact kp1 F _ hF (ne_of hF e1 ff_sf) (ne_of hF hfr (by intro z; cases z)) (ne_of hF e3 (by intro z; cases z))
  obtain ⟨dx1, e2⟩ := k1.ob
  obtain ⟨F', dF', hfr1, _⟩ : ∃ F' dF', H1 a.fr = some (.lst [.ref F']) ∧ H1 F' = some (.ins (cF K) dF' (ff 0 ⟨#[c, c, c]⟩)) := k1.fr
  repeat wtm_at "g"
  refine g_ixS (c := c) (szL (by show s.tx.length ≤ 100000; omega)) hc ?_
  repeat wtm_at "g"
  refine g_ifF (sg_ne (x := ⟨#[c]⟩) (l := []) (d := 123) rfl (by decide +kernel) h1) ?_
  repeat wtm_at "g"
  refine g_ixS (c := c) (szL (by show s.tx.length ≤ 100000; omega)) hc ?_
  repeat wtm_at "g"
  refine g_ifF (sg_ne (x := ⟨#[c]⟩) (l := []) (d := 125) rfl (by decide +kernel) h2) ?_
  repeat wtm_at "g"
  refine g_ifF (by decide +kernel) ?_
  repeat wtm_at "g"
  refine ⟨_, rfl, _, _, _, _, _, rfl, e2, T.c_Scanner, T.n_Scanner_frames, sf_frames _ _, _, rfl, a.fr, _, _, 0, rfl, rfl, hfr1, by decide, by decide, rfl, ?_⟩
  have k2 := k1.pop
  have kp2 : Kp H (upd H1 a.fr (.lst [])) a := kp1.trans Kp.frs
  have hF2 : upd H1 a.fr (.lst []) F = some (.ins (cF K) dF (ff 0 ⟨#[c, c, c]⟩)) := by
    rw [upd_ne (ne_of hF1 hfr1 (by intro z; cases z))]
    exact hF1
  show tSeq _ _ _ _ (upd H1 a.fr (.lst []))
  generalize upd H1 a.fr (.lst []) = H2 at k2 kp2 hF2 ⊢
  obtain ⟨dx2, e3⟩ := k2.ob
  repeat wtm_at "g"
  refine ⟨a, _, none, _, "FSTRING_END", k + 3, rfl, k2, hz, ?_, fun H3 k3 kp3 => ?_⟩
  · unfold tPartTk
    rw [List.length_append]
    split
    · show tk.length + 1 ≤ 1000
      omega
    · show tk.length + 0 ≤ 1000
      omega
  repeat wtm_at "g"
  exact q H3 k3 (kp2.trans kp3)
/-! a step -/
/-- the state with the gap skipped -/
abbrev sGap (s : S) (j : Nat) : S := { s with at_ := j, join := -1 }
/-- blanks and tabs from i on up to j -/
def Gap (l : List Nat) (i j : Nat) : Prop := i ≤ j ∧ ∀ m, i ≤ m → m < j → l[m]? = some 32 ∨ l[m]? = some 9
inductive StepR (s : S) : Option Str → List Tk → S → Option Str → List Tk → Bool → Prop
  | part (tk : List Tk) (c k : Nat) : c ≠ 123 → c ≠ 125 → s.final = false → PartRun (tl s.tx) [c, c, c] s.at_ k → StepR s (some ⟨#[c, c, c]⟩) tk { s with at_ := k + 3, join := -1 } none (tk ++ tPartTk s k ++ [(("FSTRING_END" : Str), cut s.tx k (k + 3), k)]) true
  | ind {tk s' tk' b} : s.fresh = true → IndR s tk s' tk' b → StepR s none tk s' none tk' b
  | lex {tk s' fq' tk'} (j c : Nat) : s.fresh = false → s.join = -1 → s.final = false → Gap (tl s.tx) s.at_ j → (tl s.tx)[j]? = some c → c ≠ 32 → c ≠ 9 → c ≠ 92 → c ≠ 35 → c ≠ 10 → LexR (sGap s j) c none tk s' fq' tk' → StepR s none tk s' fq' tk' true
  | cmt {tk} (j e : Nat) : s.fresh = false → s.join = -1 → Gap (tl s.tx) s.at_ j → (tl s.tx)[j]? = some 35 → Lf (tl s.tx) j e → StepR s none tk (sGap s e) none (tk ++ [(("COMMENT" : Str), cut s.tx j e, j)]) true
  | lf {tk} (j : Nat) : s.fresh = false → s.join = -1 → Gap (tl s.tx) s.at_ j → (tl s.tx)[j]? = some 10 → StepR s none tk { s with at_ := j + 1, join := -1, fresh := true, begun := false } none (tk ++ [(("NEWLINE" : Str), cut s.tx j (j + 1), j)]) true
def sp_read_step (C CF : Addr) : Sp := fun vs H Q _ => ∃ (a : Ad) (s : S) (fq : Option Str) (tk : List Tk) (s' : S) (fq' : Option Str) (tk' : List Tk) (b : Bool), vs = [.ref a.p] ∧ SA C CF H a s fq tk ∧ s.tx.length ≤ 5000 ∧ tk.length ≤ 900 ∧
  StepR s fq tk s' fq' tk' b ∧ Post C CF a H s' fq' tk' Q (.bl b)
end
section
variable {K : PySem.W.Frag} {P : Program} {w : World} {base : Heap} {mg : Str → Option Value}
theorem sGap_self {s : S} (h : s.join = -1) : sGap s s.at_ = s := by
  cases s
  simp only at h
  subst h
  rfl
theorem ok_read_step (T : Top K mg) (O_read_part : OkM P w K mg base 3 "Scanner" "read_part" p_Scanner_read_part (sp_read_part (cS K) (cF K))) (O_read_indentation : OkM P w K mg base 4 "Scanner" "read_indentation" p_Scanner_read_indentation (sp_read_indentation (cS K) (cF K)))
    (O_read_comment : OkM P w K mg base 2 "Scanner" "read_comment" p_Scanner_read_comment (sp_read_comment (cS K) (cF K))) (O_read_line_feed : OkM P w K mg base 2 "Scanner" "read_line_feed" p_Scanner_read_line_feed (sp_read_line_feed (cS K) (cF K)))
    (O_read_lexeme : OkM P w K mg base 5 "Scanner" "read_lexeme" p_Scanner_read_lexeme (sp_read_lexeme (cS K) (cF K))) (O_finish : OkM P w K mg base 2 "Scanner" "finish" p_Scanner_finish (sp_finish (cS K) (cF K))) :
    OkM P w K mg base 6 "Scanner" "read_step" p_Scanner_read_step (sp_read_step (cS K) (cF K)) := by
  refine mkOkM T.d_Scanner_read_step T.m_read_step T.c_Scanner sc_Scanner_read_step b_Scanner_read_step (fun vs H Q E h => ?_) (fun f cdv A outer s H vs Q E hr h => ?_)
  · obtain ⟨a, s, fq, tk, s', fq', tk', b, rfl, _⟩ := h
    rfl
  obtain ⟨a, s, fq, tk, s', fq', tk', b, rfl, h, hz, hl, hR, q⟩ := h
  obtain ⟨dx, e1⟩ := h.ob
  refine ⟨_, (pss_cons (ps_if (PW.pt (pw_and (pt_cmpR (op_neNil hr.units) (pe_fld (pv 0) rfl) (pe_lst pa_nil) (nomark _)) (pw_and1 (pt_cmpR op_in_seq (pe_fld (pe_ix ix_list (pe_fld (pv 0) rfl) (pe_un un_neg pe_int) (fun _ _ => rfl)) rfl) (pe_tup (pa_cons pe_str (pa_cons pe_str pa_nil))) rfl)))) (pss_one (ps_ret (pm O_read_part hr (pv 0) (pa_cons (pe_ix ix_list (pe_fld (pv 0) rfl) (pe_un un_neg pe_int) (fun _ _ => rfl)) pa_nil)))) pss_nil) (pss_cons (ps_if (PW.pt (pw_and (pt_val (pe_fld (pv 0) rfl)) (pw_and1 (pt_cmpR (op_eqNil hr.units) (pe_fld (pv 0) rfl) (pe_lst pa_nil) (nomark _))))) (pss_one (ps_ret (pm0 O_read_indentation hr (pv 0)))) pss_nil) (pss_cons (ps_while PassesOwn.never (PW.pt (pw_and (pt_cmpR op_lt (pe_fld (pv 0) rfl) (pe_callB cr_lnS rfl T.f_len PySem.boot_len (pa_cons (pe_fld (pv 0) rfl) pa_nil)) (nomark _)) (pw_and1 (pt_cmpR op_inS (pe_ix ix_str (pe_fld (pv 0) rfl) (pe_fld (pv 0) rfl) (fun _ _ => rfl)) (pgS T.s_GAPS rfl) rfl)))) (pss_cons (ps_fldaug (pv 0) pe_int in_add) (pss_one (ps_fld (pv 0) (pe_un un_neg pe_int) rfl)))) (pss_cons (ps_if (pt_cmpR op_eq (pe_fld (pv 0) rfl) (pe_callB cr_lnS rfl T.f_len PySem.boot_len (pa_cons (pe_fld (pv 0) rfl) pa_nil)) (nomark _)) (pss_one (ps_ret (pe_and (pe_fld (pv 0) rfl) (pe_one (pm0 O_finish hr (pv 0)))))) pss_nil) (pss_cons (ps_set (i := 1) sc_Scanner_read_step.nd rfl (Or.inl rfl) (pe_ix ix_str (pe_fld (pv 0) rfl) (pe_fld (pv 0) rfl) (fun _ _ => rfl))) (pss_cons (ps_if (pt_cmpR op_eq (pv 1) pe_str (nomark _)) pss_never pss_nil) (pss_cons (ps_if (pt_cmpR op_eq (pv 1) pe_str (nomark _)) (pss_one (ps_ret (pm0 O_read_comment hr (pv 0)))) pss_nil) (pss_cons (ps_if (pt_cmpR op_eq (pv 1) pe_str (nomark _)) (pss_cons (ps_expr (pm0 O_read_line_feed hr (pv 0))) (pss_one (ps_ret pe_bl))) pss_nil) (pss_one (ps_ret (pm O_read_lexeme hr (pv 0) (pa_cons (pv 1) pa_nil)))))))))))), ?_⟩
  try dsimp only [cxOf]
  refine g_start (σ := [some _, none]) rfl ?_
  repeat wtm_at "g"
  refine ⟨Nat.zero_le _, fun B hB => ?_⟩
  repeat wtm_at "g"
  have k1 := h.new (o := .lst []) hB
  have kp1 : Kp H (upd H B (.lst [])) a := Kp.new hB
  have eB : upd H B (.lst []) B = some (.lst []) := upd_same
  generalize upd H B (.lst []) = H1 at k1 kp1 eB ⊢
  obtain ⟨dx1, e2⟩ := k1.ob
  -- what follows where there is no frame and the line has begun
  have go : ∀ {R : L2.St → Hp → Prop} (j : Nat), s.join = -1 → Gap (tl s.tx) s.at_ j → (∃ c, (tl s.tx)[j]? = some c ∧ c ≠ 32 ∧ c ≠ 9) → fq = none → (∀ H2, SA (cS K) (cF K) H2 a (sGap s j) none tk → Kp H H2 a → R [some (.ref a.p), none] H2) →
      tWhile (tAnd (tTest (tOp (rI0 fun i j => V.bl (decide (i < j))) (tFld K (tVar 0) "at") (tCB rLnS (tCons (tFld K (tVar 0) "text") tNil)))) (tTest (tOp rInS (tOp rIxS (tFld K (tVar 0) "text") (tFld K (tVar 0) "at")) (tC (.str " \t")))))
        (tSeq (sFldAug K (tVar 0) (tC (.int 1)) rAdd "at") (sFld K (tVar 0) (tUn (rU fun i => V.int (-i)) (tC (.int 1))) "join")) { nx := R, rt := Q } [some (.ref a.p), none] H1 := by
    intro R j hj hg hc hf hk
    subst hf
    obtain ⟨c, hc, hc1, hc2⟩ := hc
    have hjl : j < s.tx.length := by
      rw [len_tl]
      exact (List.getElem?_eq_some_iff.mp hc).1
    refine ⟨fun m σ H' => ∃ i : Nat, SA (cS K) (cF K) H' a (sGap s i) none tk ∧ Kp H H' a ∧ σ = [some (.ref a.p), none] ∧ s.at_ ≤ i ∧ i ≤ j ∧ m = j - i, ⟨_, s.at_, ?_, kp1, rfl, Nat.le_refl _, hg.1, rfl⟩, ?_⟩
    · rw [sGap_self hj]
      exact k1
    rintro m σ H' ⟨i, k2, kp2, rfl, h1, h2, rfl⟩
    obtain ⟨dx2, e3⟩ := k2.ob
    repeat wtm_at "g"
    refine g_ifT (decide_eq_true (by show (i : Int) < (s.tx.length : Int); omega)) ?_
    rcases Nat.lt_or_ge i j with h3 | h3
    · obtain ⟨d, hd, hdg⟩ : ∃ d, (tl s.tx)[i]? = some d ∧ (d = 32 ∨ d = 9) := by
        rcases hg.2 i h1 h3 with e | e
        · exact ⟨_, e, .inl rfl⟩
        · exact ⟨_, e, .inr rfl⟩
      repeat wtm_at "g"
      refine g_ifT (by rw [tlGaps]; rcases hdg with rfl | rfl <;> decide) ?_
      refine ⟨_, fun σ' H'' h' => ⟨j - (i + 1), by omega, h'⟩, ?_⟩
      repeat wtm_at "g"
      refine ⟨_, rfl, _, _, _, _, _, rfl, e3, T.c_Scanner, T.n_Scanner_at, sf_at _ _, _, _, rfl, rfl, dx2, _, e3, sf_len _ _, ?_⟩
      have e5 : putF "at" (V.int (((sGap s i).at_ : Int) + 1)) (sf a (sGap s i)) = sf a (sGap s (i + 1)) := sw_at a (sGap s i) (i + 1)
      rw [e5]
      repeat wtm_at "g"
      refine g_stAt upd_same T.c_Scanner T.n_Scanner_join (sf_len _ _) (sw_join _ _ _) ?_
      exact ⟨i + 1, (k2.fld _).fld _, (kp2.trans Kp.p).trans Kp.p, rfl, by omega, by omega, rfl⟩
    · have e : i = j := by omega
      subst e
      repeat wtm_at "g"
      refine g_ifF (notGap hc1 hc2) ?_
      exact hk H' k2 kp2
  cases hR with
  | part _ c k h1 h2 hfin hP =>
    obtain ⟨F, dF, hfr, hF⟩ : ∃ F dF, H1 a.fr = some (.lst [.ref F]) ∧ H1 F = some (.ins (cF K) dF (ff 0 ⟨#[c, c, c]⟩)) := k1.fr
    refine g_neNil (xs := [.ref F]) (SqL.of hfr) (SqL.of eB) ?_
    repeat wtm_at "g"
    refine g_ifT rfl ?_
    repeat wtm_at "g"
    refine g_ixL (v := .ref F) (SqL.of hfr) rfl ?_
    repeat wtm_at "g"
    refine ⟨by show 2 ≤ sizeLine; decide, fun B2 hB2 => ?_⟩
    repeat wtm_at "g"
    refine g_inQ (.inr (SqT.of upd_same)) rfl rfl ?_
    have k2 := k1.new (o := .tup [.str "string", .str "format"]) hB2
    have kp2 : Kp H (upd H1 B2 (.tup [.str "string", .str "format"])) a := kp1.trans (Kp.new hB2)
    have hfr2 : upd H1 B2 (.tup [.str "string", .str "format"]) a.fr = some (.lst [.ref F]) := by
      rw [upd_ne (ne_of_none hfr hB2)]
      exact hfr
    have hF2 : upd H1 B2 (.tup [.str "string", .str "format"]) F = some (.ins (cF K) dF (ff 0 ⟨#[c, c, c]⟩)) := by
      rw [upd_ne (ne_of_none hF hB2)]
      exact hF
    generalize upd H1 B2 (.tup [.str "string", .str "format"]) = H2 at k2 kp2 hfr2 hF2 ⊢
    obtain ⟨dx2, e3⟩ := k2.ob
    repeat wtm_at "g"
    refine g_ifT (by decide +kernel) ?_
    repeat wtm_at "g"
    refine g_ixL (v := .ref F) (SqL.of hfr2) rfl ?_
    repeat wtm_at "g"
    exact ⟨a, s, tk, F, dF, c, k, rfl, k2, hfr2, hF2, hz, hl, hfin, h1, h2, hP, fun H3 k3 kp3 => q H3 k3 (kp2.trans kp3)⟩
  | ind hfresh hI =>
    have hfr : H1 a.fr = some (.lst []) := k1.fr
    refine g_neNil (xs := []) (SqL.of hfr) (SqL.of eB) ?_
    repeat wtm_at "g"
    refine g_ifF rfl ?_
    refine g_ifF rfl ?_
    repeat wtm_at "g"
    refine g_ifT hfresh ?_
    repeat wtm_at "g"
    refine ⟨Nat.zero_le _, fun B2 hB2 => ?_⟩
    repeat wtm_at "g"
    refine g_eqNil (xs := []) (SqL.of ?_) (SqL.of upd_same) ?_
    · rw [upd_ne (ne_of_none hfr hB2)]
      exact hfr
    have k2 := k1.new (o := .lst []) hB2
    have kp2 : Kp H (upd H1 B2 (.lst [])) a := kp1.trans (Kp.new hB2)
    generalize upd H1 B2 (.lst []) = H2 at k2 kp2 ⊢
    obtain ⟨dx2, e3⟩ := k2.ob
    repeat wtm_at "g"
    refine g_ifT rfl ?_
    repeat wtm_at "g"
    exact ⟨a, s, tk, _, _, _, rfl, k2, hz, hl, hI, fun H3 k3 kp3 => q H3 k3 (kp2.trans kp3)⟩
  | lex j c hfresh hj hfin hg hc h1 h2 h3 h4 h5 hL =>
    have hjl : j < s.tx.length := by
      rw [len_tl]
      exact (List.getElem?_eq_some_iff.mp hc).1
    have hfr : H1 a.fr = some (.lst []) := k1.fr
    refine g_neNil (xs := []) (SqL.of hfr) (SqL.of eB) ?_
    repeat wtm_at "g"
    refine g_ifF rfl ?_
    refine g_ifF rfl ?_
    repeat wtm_at "g"
    refine g_ifF hfresh ?_
    refine g_ifF rfl ?_
    repeat wtm_at "g"
    refine go j hj hg ⟨c, hc, h1, h2⟩ rfl fun H2 k2 kp2 => ?_
    obtain ⟨dx2, e3⟩ := k2.ob
    repeat wtm_at "g"
    refine g_ifF (decide_eq_false fun z => by injection z with z; have : (j : Int) = (s.tx.length : Int) := z; omega) ?_
    repeat wtm_at "g"
    refine g_ifF (sg_ne (x := ⟨#[c]⟩) (l := []) (d := 92) rfl (by decide +kernel) h3) ?_
    repeat wtm_at "g"
    refine g_ifF (sg_ne (x := ⟨#[c]⟩) (l := []) (d := 35) rfl (by decide +kernel) h4) ?_
    repeat wtm_at "g"
    refine g_ifF (sg_ne (x := ⟨#[c]⟩) (l := []) (d := 10) rfl (by decide +kernel) h5) ?_
    repeat wtm_at "g"
    exact ⟨a, sGap s j, c, none, tk, _, _, _, rfl, k2, hz, by omega, hfin, hc, hL, fun H3 k3 kp3 => q H3 k3 (kp2.trans kp3)⟩
  | cmt j e hfresh hj hg hc hf =>
    have hjl : j < s.tx.length := by
      rw [len_tl]
      exact (List.getElem?_eq_some_iff.mp hc).1
    have hfr : H1 a.fr = some (.lst []) := k1.fr
    refine g_neNil (xs := []) (SqL.of hfr) (SqL.of eB) ?_
    repeat wtm_at "g"
    refine g_ifF rfl ?_
    refine g_ifF rfl ?_
    repeat wtm_at "g"
    refine g_ifF hfresh ?_
    refine g_ifF rfl ?_
    repeat wtm_at "g"
    refine go j hj hg ⟨35, hc, by decide, by decide⟩ rfl fun H2 k2 kp2 => ?_
    obtain ⟨dx2, e3⟩ := k2.ob
    repeat wtm_at "g"
    refine g_ifF (decide_eq_false fun z => by injection z with z; have : (j : Int) = (s.tx.length : Int) := z; omega) ?_
    repeat wtm_at "g"
    refine g_ifF (sg_ne (x := ⟨#[35]⟩) (l := []) (d := 92) rfl (by decide +kernel) (by decide)) ?_
    repeat wtm_at "g"
    refine g_ifT (by decide +kernel) ?_
    repeat wtm_at "g"
    exact ⟨a, sGap s j, none, tk, e, rfl, k2, hz, by omega, hf, fun H3 k3 kp3 => q H3 k3 (kp2.trans kp3)⟩
  | lf j hfresh hj hg hc =>
    have hjl : j < s.tx.length := by
      rw [len_tl]
      exact (List.getElem?_eq_some_iff.mp hc).1
    have hfr : H1 a.fr = some (.lst []) := k1.fr
    refine g_neNil (xs := []) (SqL.of hfr) (SqL.of eB) ?_
    repeat wtm_at "g"
    refine g_ifF rfl ?_
    refine g_ifF rfl ?_
    repeat wtm_at "g"
    refine g_ifF hfresh ?_
    refine g_ifF rfl ?_
    repeat wtm_at "g"
    refine go j hj hg ⟨10, hc, by decide, by decide⟩ rfl fun H2 k2 kp2 => ?_
    obtain ⟨dx2, e3⟩ := k2.ob
    repeat wtm_at "g"
    refine g_ifF (decide_eq_false fun z => by injection z with z; have : (j : Int) = (s.tx.length : Int) := z; omega) ?_
    repeat wtm_at "g"
    refine g_ifF (sg_ne (x := ⟨#[10]⟩) (l := []) (d := 92) rfl (by decide +kernel) (by decide)) ?_
    repeat wtm_at "g"
    refine g_ifF (sg_ne (x := ⟨#[10]⟩) (l := []) (d := 35) rfl (by decide +kernel) (by decide)) ?_
    repeat wtm_at "g"
    refine g_ifT (by decide +kernel) ?_
    repeat wtm_at "g"
    refine ⟨a, sGap s j, tk, rfl, k2, hz, by omega, fun H3 k3 kp3 => ?_⟩
    repeat wtm_at "g"
    exact q H3 k3 (kp2.trans kp3)
end
section
variable {K : PySem.W.Frag} {P : Program} {w : World} {base : Heap} {mg : Str → Option Value}
/-- n steps, to the end -/
inductive Runs : Nat → S → Option Str → List Tk → S → Option Str → List Tk → Prop
  | stop {s fq tk} (n : Nat) : s.over = true → Runs n s fq tk s fq tk
  | last {s fq tk s' fq' tk'} (n : Nat) : s.over = false → s.tx.length ≤ 5000 → tk.length ≤ 900 → StepR s fq tk s' fq' tk' false → Runs n s fq tk s' fq' tk'
  | more {s fq tk s1 fq1 tk1 s' fq' tk'} (n : Nat) : s.over = false → s.tx.length ≤ 5000 → tk.length ≤ 900 → StepR s fq tk s1 fq1 tk1 true → Runs n s1 fq1 tk1 s' fq' tk' → Runs (n + 1) s fq tk s' fq' tk'
section
variable (C CF : Addr)
/-- a new list of the tokens since -/
def PostL (a : Ad) (H : Hp) (k : Nat) (s' : S) (fq' : Option Str) (tk' : List Tk) (Q : VK) : Prop := ∀ H' r bs, SA C CF H' a s' fq' tk' → Kp H H' a → r ≠ a.p → r ≠ a.fr → r ≠ a.fo → H' r = some (.lst (bs.map V.ref)) → TokAt H' bs (tk'.drop k) → Q (.ref r) H'
def sp_read_on : Sp := fun vs H Q _ => ∃ (a : Ad) (s : S) (fq : Option Str) (tk : List Tk) (n : Nat) (s' : S) (fq' : Option Str) (tk' : List Tk), vs = [.ref a.p] ∧ SA C CF H a s fq tk ∧ tk.length ≤ 1000 ∧ Runs n s fq tk s' fq' tk' ∧ PostL C CF a H tk.length s' fq' tk' Q
def sp_feed : Sp := fun vs H Q _ => ∃ (a : Ad) (s : S) (fq : Option Str) (tk : List Tk) (z : Str) (n : Nat) (s' : S) (fq' : Option Str) (tk' : List Tk), vs = [.ref a.p, .str z] ∧ SA C CF H a s fq tk ∧ s.tx.length + z.length ≤ 5000 ∧ tk.length ≤ 1000 ∧
  Runs n { s with tx := s.tx ++ z } fq tk s' fq' tk' ∧ PostL C CF a H tk.length s' fq' tk' Q
def sp_close : Sp := fun vs H Q _ => ∃ (a : Ad) (s : S) (fq : Option Str) (tk : List Tk) (n : Nat) (s' : S) (fq' : Option Str) (tk' : List Tk), vs = [.ref a.p] ∧ SA C CF H a s fq tk ∧ tk.length ≤ 1000 ∧
  Runs n { s with final := true } fq tk s' fq' tk' ∧ PostL C CF a H tk.length s' fq' tk' Q
abbrev s_0 (z : Str) : S := { tx := z, at_ := 0, fresh := true, begun := false, final := false, over := false, join := -1 }
def sp_Scanner_init : Sp := fun vs H Q _ => ∃ (p dx : Addr), vs = [.ref p] ∧ H p = some (.ins C dx []) ∧ ∀ H' (a : Ad), a.p = p → SA C CF H' a (s_0 "") none [] → (∀ b o, H b = some o → b ≠ p → H' b = some o) → H a.lv = none → H a.fr = none → H a.fo = none → Q .non H'
def sp_read : Sp := fun vs H Q _ => ∃ (z : Str) (n1 n2 : Nat) (s1 : S) (fq1 : Option Str) (tk1 : List Tk) (s2 : S) (fq2 : Option Str) (tk2 : List Tk), vs = [.str z] ∧ z.length ≤ 5000 ∧ tk1.length ≤ 1000 ∧ tk2.length ≤ 1000 ∧
  Runs n1 (s_0 ("" ++ z)) none [] s1 fq1 tk1 ∧ Runs n2 { s1 with final := true } fq1 tk1 s2 fq2 tk2 ∧
  ∀ H' r l bs, Same H H' → H' r = some (.tup [.ref l, .non]) → H' l = some (.lst (bs.map V.ref)) → TokAt H' bs (tk1 ++ tk2.drop tk1.length) → Q (.ref r) H'
end
theorem cutV_from (xs : List V) (n : Nat) : cutV xs (some (n : Int)) none = xs.drop n := by
  unfold cutV
  rw [HT.sIx_nat, HT.sIx_none]
  by_cases h : n ≤ xs.length
  · rw [Nat.min_eq_left h, List.take_of_length_le (by rw [List.length_drop]; exact Nat.le_refl _)]
  · rw [Nat.min_eq_right (by omega), List.drop_length, List.drop_eq_nil_of_le (show xs.length ≤ n by omega), List.take_nil]
theorem ok_read_on (T : Top K mg) (O_read_step : OkM P w K mg base 6 "Scanner" "read_step" p_Scanner_read_step (sp_read_step (cS K) (cF K))) : OkM P w K mg base 7 "Scanner" "read_on" p_Scanner_read_on (sp_read_on (cS K) (cF K)) := by
  refine mkOkM T.d_Scanner_read_on T.m_read_on T.c_Scanner sc_Scanner_read_on b_Scanner_read_on (fun vs H Q E h => ?_) (fun f cdv A outer s H vs Q E hr h => ?_)
  · obtain ⟨a, s, fq, tk, n, s', fq', tk', rfl, _⟩ := h
    rfl
  obtain ⟨a, s, fq, tk, n, s', fq', tk', rfl, h, hl, hR, q⟩ := h
  obtain ⟨dx, e1⟩ := h.ob
  obtain ⟨as, e2, ht⟩ := id h.fo
  have hlen : (as.map V.ref).length = tk.length := by
    rw [List.length_map]
    exact ht.len
  refine ⟨_, (pss_cons (ps_set (i := 1) sc_Scanner_read_on.nd rfl (Or.inl rfl) (pe_callB cr_lnL rfl T.f_len PySem.boot_len (pa_cons (pe_fld (pv 0) rfl) pa_nil))) (pss_cons (ps_while PassesOwn.never (PW.pt (pw_and (pt_not (pt_val (pe_fld (pv 0) rfl))) (pw_and1 (pt_val (pm0 O_read_step hr (pv 0)))))) (pss_one ps_pass)) (pss_one (ps_ret (pe_slice sl_list (pe_fld (pv 0) rfl) (po_some (pv 1)) po_none))))), ?_⟩
  try dsimp only [cxOf]
  refine g_start (σ := [some _, none]) rfl ?_
  repeat wtm_at "g"
  refine g_lnL (SqL.of e2) ?_
  rw [hlen]
  repeat wtm_at "g"
  -- what follows the loop
  have out : ∀ H', SA (cS K) (cF K) H' a s' fq' tk' → Kp H H' a → tRet (tSl (rSlL K) (tFld K (tVar 0) "found") (tPart (tVar 1)) tNoPart) { nx := fun _ H' => Q .non H', rt := Q } [some (.ref a.p), some (.int (tk.length : Int))] H' := by
    intro H' k kp
    obtain ⟨dx', e1'⟩ := k.ob
    obtain ⟨as', e2', ht'⟩ := id k.fo
    obtain ⟨ys, e3'⟩ := k.frL
    repeat wtm_at "g"
    refine g_slL (SqL.of e2') fun r hr' => ?_
    rw [cutV_from, ← List.map_drop]
    exact q _ r _ (k.new hr') (kp.trans (Kp.new hr')) (ne_of_none e1' hr').symm (ne_of_none e3' hr').symm (ne_of_none e2' hr').symm upd_same ((ht'.drop _).mono fun b xs eb => by
      rw [upd_ne (ne_of_none eb hr')]
      exact eb)
  refine ⟨fun m σ H' => ∃ s1 fq1 tk1, SA (cS K) (cF K) H' a s1 fq1 tk1 ∧ Kp H H' a ∧ Runs m s1 fq1 tk1 s' fq' tk' ∧ σ = [some (.ref a.p), some (.int (tk.length : Int))], ⟨n, s, fq, tk, h, Kp.refl _ _, hR, rfl⟩, ?_⟩
  rintro m σ H' ⟨s1, fq1, tk1, k, kp, hr1, rfl⟩
  obtain ⟨dx', e1'⟩ := k.ob
  repeat wtm_at "g"
  cases hr1 with
  | stop _ ho =>
    rw [ho]
    refine g_ifF rfl ?_
    refine g_ifF rfl ?_
    exact out H' k kp
  | last _ ho hz htk hs =>
    rw [ho]
    refine g_ifT rfl ?_
    repeat wtm_at "g"
    refine ⟨a, s1, fq1, tk1, _, _, _, _, rfl, k, hz, htk, hs, fun H3 k3 kp3 => ?_⟩
    repeat wtm_at "g"
    refine g_ifF rfl ?_
    exact out H3 k3 (kp.trans kp3)
  | more m' ho hz htk hs hr2 =>
    rw [ho]
    refine g_ifT rfl ?_
    repeat wtm_at "g"
    refine ⟨a, s1, fq1, tk1, _, _, _, _, rfl, k, hz, htk, hs, fun H3 k3 kp3 => ?_⟩
    repeat wtm_at "g"
    refine g_ifT rfl ?_
    refine ⟨_, fun σ' H'' h' => ⟨m', Nat.lt_succ_self _, h'⟩, ?_⟩
    repeat wtm_at "g"
    exact ⟨_, _, _, k3, kp.trans kp3, hr2, rfl⟩
theorem ok_feed (T : Top K mg) (O_read_on : OkM P w K mg base 7 "Scanner" "read_on" p_Scanner_read_on (sp_read_on (cS K) (cF K))) : OkM P w K mg base 8 "Scanner" "feed" p_Scanner_feed (sp_feed (cS K) (cF K)) := by
  refine mkOkM T.d_Scanner_feed T.m_feed T.c_Scanner sc_Scanner_feed b_Scanner_feed (fun vs H Q E h => ?_) (fun f cdv A outer s H vs Q E hr h => ?_)
  · obtain ⟨a, s, fq, tk, z, n, s', fq', tk', rfl, _⟩ := h
    rfl
  obtain ⟨a, s, fq, tk, z, n, s', fq', tk', rfl, h, hz, hl, hR, q⟩ := h
  obtain ⟨dx, e1⟩ := h.ob
  refine ⟨_, (pss_cons (ps_fldaug (pv 0) (pv 1) in_addS) (pss_one (ps_ret (pm0 O_read_on hr (pv 0))))), ?_⟩
  try dsimp only [cxOf]
  refine g_start (σ := [some _, some _]) rfl ?_
  repeat wtm_at "g"
  refine ⟨_, rfl, _, _, _, _, _, rfl, e1, T.c_Scanner, T.n_Scanner_text, sf_text _ _, _, rfl, _, _, rfl, rfl, szL (by omega), dx, _, e1, sf_len _ _, ?_⟩
  rw [sw_text]
  have k1 := h.fld (dx := dx) { s with tx := s.tx ++ z }
  have kp1 : Kp H (upd H a.p (.ins (cS K) dx (sf a { s with tx := s.tx ++ z }))) a := Kp.p
  generalize upd H a.p (.ins (cS K) dx (sf a { s with tx := s.tx ++ z })) = H1 at k1 kp1 ⊢
  obtain ⟨dx1, e2⟩ := k1.ob
  repeat wtm_at "g"
  exact ⟨a, _, fq, tk, n, _, _, _, rfl, k1, hl, hR, fun H' r bs a1 a2 a3 a4 a5 a6 a7 => q H' r bs a1 (kp1.trans a2) a3 a4 a5 a6 a7⟩
theorem ok_close (T : Top K mg) (O_read_on : OkM P w K mg base 7 "Scanner" "read_on" p_Scanner_read_on (sp_read_on (cS K) (cF K))) : OkM P w K mg base 8 "Scanner" "close" p_Scanner_close (sp_close (cS K) (cF K)) := by
  refine mkOkM T.d_Scanner_close T.m_close T.c_Scanner sc_Scanner_close b_Scanner_close (fun vs H Q E h => ?_) (fun f cdv A outer s H vs Q E hr h => ?_)
  · obtain ⟨a, s, fq, tk, n, s', fq', tk', rfl, _⟩ := h
    rfl
  obtain ⟨a, s, fq, tk, n, s', fq', tk', rfl, h, hl, hR, q⟩ := h
  obtain ⟨dx, e1⟩ := h.ob
  refine ⟨_, (pss_cons (ps_fld (pv 0) pe_bl rfl) (pss_one (ps_ret (pm0 O_read_on hr (pv 0))))), ?_⟩
  try dsimp only [cxOf]
  refine g_start (σ := [some _]) rfl ?_
  repeat wtm_at "g"
  refine g_stAt e1 T.c_Scanner T.n_Scanner_is_final (sf_len _ _) (sw_final _ _ _) ?_
  have k1 := h.fld (dx := dx) { s with final := true }
  repeat wtm_at "g"
  refine g_methAt upd_same (sn_read_on _ _) ?_
  repeat wtm_at "g"
  exact ⟨a, _, fq, tk, n, _, _, _, rfl, k1, hl, hR, fun H' r bs a1 a2 a3 a4 a5 a6 a7 => q H' r bs a1 (Kp.p.trans a2) a3 a4 a5 a6 a7⟩
theorem ok_Scanner_init (T : Top K mg) : OkM P w K mg base 1 "Scanner" "__init__" p_Scanner_init (sp_Scanner_init (cS K) (cF K)) := by
  refine mkOkM T.d_Scanner_init ⟨T.k_Scanner.init, T.k_Scanner.fn, ?_⟩ T.c_Scanner sc_Scanner_init b_Scanner_init (fun vs H Q E h => ?_) (fun f cdv A outer s H vs Q E hr h => ?_)
  · obtain ⟨fd, F⟩ := T.d_Scanner_init
    exact F.kp
  · obtain ⟨p, dx, rfl, _⟩ := h
    rfl
  obtain ⟨p, dx, rfl, hp, q⟩ := h
  refine ⟨_, (pss_cons (ps_fld (pv 0) pe_str rfl) (pss_cons (ps_fld (pv 0) pe_int rfl) (pss_cons (ps_fld (pv 0) (pe_lst (pa_cons (pe_tup (pa_cons pe_int (pa_cons pe_int pa_nil))) pa_nil)) rfl) (pss_cons (ps_fld (pv 0) (pe_lst pa_nil) rfl) (pss_cons (ps_fld (pv 0) (pe_lst pa_nil) rfl) (pss_cons (ps_fld (pv 0) pe_non rfl) (pss_cons (ps_fld (pv 0) pe_bl rfl) (pss_cons (ps_fld (pv 0) pe_bl rfl) (pss_cons (ps_fld (pv 0) pe_bl rfl) (pss_cons (ps_fld (pv 0) pe_bl rfl) (pss_one (ps_fld (pv 0) (pe_un un_neg pe_int) rfl)))))))))))), ?_⟩
  try dsimp only [cxOf]
  refine g_start (σ := [some _]) rfl ?_
  repeat wtm_at "g"
  refine g_stAt (fs' := [(("text" : Str), V.str "")]) hp T.c_Scanner T.n_Scanner_text (by show 0 < 1000; decide) rfl ?_
  repeat wtm_at "g"
  refine g_stAt (fs' := [(("text" : Str), V.str ""), (("at" : Str), V.int 0)]) upd_same T.c_Scanner T.n_Scanner_at (by show 1 < 1000; decide) rfl ?_
  rw [upd_upd]
  have eH1 : upd H p (.ins (cS K) dx [(("text" : Str), V.str ""), (("at" : Str), V.int 0)]) p = some (.ins (cS K) dx [(("text" : Str), V.str ""), (("at" : Str), V.int 0)]) := upd_same
  have kH1 : ∀ b o, H b = some o → b ≠ p → upd H p (.ins (cS K) dx [(("text" : Str), V.str ""), (("at" : Str), V.int 0)]) b = some o := fun b o e hb => by
    rw [upd_ne hb]
    exact e
  have nH1 : ∀ b, upd H p (.ins (cS K) dx [(("text" : Str), V.str ""), (("at" : Str), V.int 0)]) b = none → H b = none := fun b e => by
    by_cases hb : b = p
    · subst hb
      rw [upd_same] at e
      cases e
    · rw [upd_ne hb] at e
      exact e
  repeat wtm_at "g"
  generalize upd H p (.ins (cS K) dx [(("text" : Str), V.str ""), (("at" : Str), V.int 0)]) = H1 at eH1 kH1 nH1 ⊢
  refine ⟨by show 2 ≤ sizeLine; decide, fun t0 ht0 => ?_⟩
  repeat wtm_at "g"
  refine ⟨by show 1 ≤ sizeLine; decide, fun lv hlv => ?_⟩
  have e2 : upd (upd H1 t0 (.tup [.int 0, .int 0])) lv (.lst [.ref t0]) p = some (.ins (cS K) dx [(("text" : Str), V.str ""), (("at" : Str), V.int 0)]) := by
    have e3 : upd H1 t0 (.tup [.int 0, .int 0]) p = some (.ins (cS K) dx [(("text" : Str), V.str ""), (("at" : Str), V.int 0)]) := by
      rw [upd_ne (ne_of_none eH1 ht0)]
      exact eH1
    rw [upd_ne (ne_of_none e3 hlv)]
    exact e3
  have sm2 : Same H1 (upd (upd H1 t0 (.tup [.int 0, .int 0])) lv (.lst [.ref t0])) := fun b o e => by
    have e3 : upd H1 t0 (.tup [.int 0, .int 0]) b = some o := by
      rw [upd_ne (ne_of_none e ht0)]
      exact e
    rw [upd_ne (ne_of_none e3 hlv)]
    exact e3
  have eT : upd (upd H1 t0 (.tup [.int 0, .int 0])) lv (.lst [.ref t0]) t0 = some (.tup [.int 0, .int 0]) := by
    have e3 : upd H1 t0 (.tup [.int 0, .int 0]) t0 = some (.tup [.int 0, .int 0]) := upd_same
    rw [upd_ne (ne_of_none e3 hlv)]
    exact e3
  have eL : upd (upd H1 t0 (.tup [.int 0, .int 0])) lv (.lst [.ref t0]) lv = some (.lst [.ref t0]) := upd_same
  have n1 : H1 lv = none := by
    by_cases hb : lv = t0
    · subst hb
      exact ht0
    · rw [upd_ne hb] at hlv
      exact hlv
  generalize upd (upd H1 t0 (.tup [.int 0, .int 0])) lv (.lst [.ref t0]) = H2 at e2 sm2 eT eL ⊢
  repeat wtm_at "g"
  refine g_stAt (fs' := [(("text" : Str), V.str ""), (("at" : Str), V.int 0), (("levels" : Str), V.ref lv)]) e2 T.c_Scanner T.n_Scanner_levels (by show 2 < 1000; decide) rfl ?_
  repeat wtm_at "g"
  refine ⟨Nat.zero_le _, fun fr hfr => ?_⟩
  repeat wtm_at "g"
  have q2 : upd H2 p (.ins (cS K) dx [(("text" : Str), V.str ""), (("at" : Str), V.int 0), (("levels" : Str), V.ref lv)]) p = some (.ins (cS K) dx [(("text" : Str), V.str ""), (("at" : Str), V.int 0), (("levels" : Str), V.ref lv)]) := upd_same
  refine g_stAt (fs' := [(("text" : Str), V.str ""), (("at" : Str), V.int 0), (("levels" : Str), V.ref lv), (("frames" : Str), V.ref fr)]) (by rw [upd_ne (ne_of_none q2 hfr)]; exact q2) T.c_Scanner T.n_Scanner_frames (by show 3 < 1000; decide) rfl ?_
  repeat wtm_at "g"
  refine ⟨Nat.zero_le _, fun fo hfo => ?_⟩
  have pfr : p ≠ fr := ne_of_none q2 hfr
  have q3 : upd (upd (upd H2 p (.ins (cS K) dx [(("text" : Str), V.str ""), (("at" : Str), V.int 0), (("levels" : Str), V.ref lv)])) fr (.lst [])) p (.ins (cS K) dx [(("text" : Str), V.str ""), (("at" : Str), V.int 0), (("levels" : Str), V.ref lv), (("frames" : Str), V.ref fr)]) p = some (.ins (cS K) dx [(("text" : Str), V.str ""), (("at" : Str), V.int 0), (("levels" : Str), V.ref lv), (("frames" : Str), V.ref fr)]) := upd_same
  have pfo : p ≠ fo := ne_of_none q3 hfo
  have frfo : fr ≠ fo := by
    have q4 : upd (upd (upd H2 p (.ins (cS K) dx [(("text" : Str), V.str ""), (("at" : Str), V.int 0), (("levels" : Str), V.ref lv)])) fr (.lst [])) p (.ins (cS K) dx [(("text" : Str), V.str ""), (("at" : Str), V.int 0), (("levels" : Str), V.ref lv), (("frames" : Str), V.ref fr)]) fr = some (.lst []) := by
      rw [upd_ne pfr.symm, upd_same]
    exact ne_of_none q4 hfo
  have hfr2 : H2 fr = none := by
    rw [upd_ne pfr.symm] at hfr
    exact hfr
  have hfo2 : H2 fo = none := by
    rw [upd_ne pfo.symm, upd_ne frfo.symm, upd_ne pfo.symm] at hfo
    exact hfo
  repeat wtm_at "g"
  refine g_stAt (fs' := [(("text" : Str), V.str ""), (("at" : Str), V.int 0), (("levels" : Str), V.ref lv), (("frames" : Str), V.ref fr), (("found" : Str), V.ref fo)]) (by rw [upd_ne (ne_of_none q3 hfo)]; exact q3) T.c_Scanner T.n_Scanner_found (by show 4 < 1000; decide) rfl ?_
  repeat wtm_at "g"
  refine g_stAt (fs' := [(("text" : Str), V.str ""), (("at" : Str), V.int 0), (("levels" : Str), V.ref lv), (("frames" : Str), V.ref fr), (("found" : Str), V.ref fo), (("failure" : Str), V.non)]) upd_same T.c_Scanner T.n_Scanner_failure (by show 5 < 1000; decide) rfl ?_
  repeat wtm_at "g"
  refine g_stAt (fs' := [(("text" : Str), V.str ""), (("at" : Str), V.int 0), (("levels" : Str), V.ref lv), (("frames" : Str), V.ref fr), (("found" : Str), V.ref fo), (("failure" : Str), V.non), (("is_fresh" : Str), V.bl true)]) upd_same T.c_Scanner T.n_Scanner_is_fresh (by show 6 < 1000; decide) rfl ?_
  repeat wtm_at "g"
  refine g_stAt (fs' := [(("text" : Str), V.str ""), (("at" : Str), V.int 0), (("levels" : Str), V.ref lv), (("frames" : Str), V.ref fr), (("found" : Str), V.ref fo), (("failure" : Str), V.non), (("is_fresh" : Str), V.bl true), (("is_begun" : Str), V.bl false)]) upd_same T.c_Scanner T.n_Scanner_is_begun (by show 7 < 1000; decide) rfl ?_
  repeat wtm_at "g"
  refine g_stAt (fs' := [(("text" : Str), V.str ""), (("at" : Str), V.int 0), (("levels" : Str), V.ref lv), (("frames" : Str), V.ref fr), (("found" : Str), V.ref fo), (("failure" : Str), V.non), (("is_fresh" : Str), V.bl true), (("is_begun" : Str), V.bl false), (("is_final" : Str), V.bl false)]) upd_same T.c_Scanner T.n_Scanner_is_final (by show 8 < 1000; decide) rfl ?_
  repeat wtm_at "g"
  refine g_stAt (fs' := [(("text" : Str), V.str ""), (("at" : Str), V.int 0), (("levels" : Str), V.ref lv), (("frames" : Str), V.ref fr), (("found" : Str), V.ref fo), (("failure" : Str), V.non), (("is_fresh" : Str), V.bl true), (("is_begun" : Str), V.bl false), (("is_final" : Str), V.bl false), (("is_over" : Str), V.bl false)]) upd_same T.c_Scanner T.n_Scanner_is_over (by show 9 < 1000; decide) rfl ?_
  repeat wtm_at "g"
  refine g_stAt (fs' := sf ⟨p, lv, fr, fo, t0⟩ (s_0 "")) upd_same T.c_Scanner T.n_Scanner_join (by show 10 < 1000; decide) rfl ?_
  rw [upd_upd, upd_upd, upd_upd, upd_upd, upd_upd, upd_upd]
  have lvp : lv ≠ p := ne_of eL e2 (by intro z; cases z)
  have t0p : t0 ≠ p := ne_of eT e2 (by intro z; cases z)
  have lvfr : lv ≠ fr := ne_of_none eL hfr2
  have lvfo : lv ≠ fo := ne_of_none eL hfo2
  have t0fr : t0 ≠ fr := ne_of_none eT hfr2
  have t0fo : t0 ≠ fo := ne_of_none eT hfo2
  have n0 : ∀ b, H2 b = none → H b = none := fun b e => nH1 b (sm2.free e)
  refine q _ ⟨p, lv, fr, fo, t0⟩ rfl ⟨⟨dx, upd_same⟩, ?_, ?_, ?_, ⟨[], ?_, trivial⟩, lvfr, lvfo, frfo⟩ (fun b o e hb => ?_) (nH1 _ n1) (n0 _ hfr2) (n0 _ hfo2)
  · rw [upd_ne lvp, upd_ne lvfo, upd_ne lvp, upd_ne lvfr, upd_ne lvp]
    exact eL
  · rw [upd_ne t0p, upd_ne t0fo, upd_ne t0p, upd_ne t0fr, upd_ne t0p]
    exact eT
  · show upd _ p _ fr = some (.lst [])
    rw [upd_ne pfr.symm, upd_ne frfo, upd_ne pfr.symm, upd_same]
  · show upd _ p _ fo = some (.lst [])
    rw [upd_ne pfo.symm, upd_same]
  · have eb := sm2 b o (kH1 b o e hb)
    rw [upd_ne hb, upd_ne (ne_of_none eb hfo2), upd_ne hb, upd_ne (ne_of_none eb hfr2), upd_ne hb]
    exact eb
end
section
variable {K : PySem.W.Frag} {P : Program} {w : World} {base : Heap} {mg : Str → Option Value}
theorem same_kp {H H1 H2 : Hp} {a : Ad} (s : Same H H1) (k : Kp H1 H2 a) (h1 : H a.p = none) (h2 : H a.fr = none) (h3 : H a.fo = none) : Same H H2 := fun b o e => k b o (s b o e) (ne_of_none e h1) (ne_of_none e h2) (ne_of_none e h3)
theorem none_under {H : Hp} {x dx b : Addr} {o o' : HO} (h : upd (upd H dx o) x o' b = none) : H b = none := by
  by_cases h1 : b = x
  · subst h1
    rw [upd_same] at h
    cases h
  · rw [upd_ne h1] at h
    by_cases h2 : b = dx
    · subst h2
      rw [upd_same] at h
      cases h
    · rw [upd_ne h2] at h
      exact h
theorem ok_read (T : Top K mg) (O_Scanner_init : OkM P w K mg base 1 "Scanner" "__init__" p_Scanner_init (sp_Scanner_init (cS K) (cF K))) (O_feed : OkM P w K mg base 8 "Scanner" "feed" p_Scanner_feed (sp_feed (cS K) (cF K)))
    (O_close : OkM P w K mg base 8 "Scanner" "close" p_Scanner_close (sp_close (cS K) (cF K))) : Ok P w K mg base 9 "read" p_read sp_read := by
  refine mkOk T.d_read T.g_read sc_read b_read (fun vs H Q E h => ?_) (fun f cdv A outer s H vs Q E hr h => ?_)
  · obtain ⟨z, n1, n2, s1, fq1, tk1, s2, fq2, tk2, rfl, _⟩ := h
    rfl
  obtain ⟨z, n1, n2, s1, fq1, tk1, s2, fq2, tk2, rfl, hz, hl1, hl2, hR1, hR2, q⟩ := h
  refine ⟨_, (pss_cons (ps_set (i := 1) sc_read.nd rfl (Or.inl rfl) (pmk0 O_Scanner_init T.k_Scanner T.g_Scanner hr rfl)) (pss_cons (ps_set (i := 2) sc_read.nd rfl (Or.inl rfl) (pm O_feed hr (pv 1) (pa_cons (pv 0) pa_nil))) (pss_one (ps_ret (pe_tup (pa_cons (pe_op op_cat (pv 2) (pm0 O_close hr (pv 1))) (pa_cons (pe_fld (pv 1) rfl) pa_nil))))))), ?_⟩
  try dsimp only [cxOf]
  refine g_start (σ := [some _, none, none]) rfl ?_
  repeat wtm_at "g"
  intro x dx nx ndx nex
  refine ⟨x, dx, rfl, upd_same, fun H1 a ea h1 k1 m1 m2 m3 => ⟨rfl, ?_⟩⟩
  have sm1 : Same H H1 := Same.made nx ndx k1
  have hp : H a.p = none := by
    rw [ea]
    exact nx
  have hfr := none_under m2
  have hfo := none_under m3
  subst ea
  obtain ⟨dx1, e1⟩ := h1.ob
  repeat wtm_at "g"
  refine ⟨a, s_0 "", none, [], z, n1, s1, fq1, tk1, rfl, h1, ?_, by decide, hR1, fun H2 r1 bs1 k2 kp2 rp rfr rfo er1 t1 => ?_⟩
  · show Str.length (Str.ofString "") + z.length ≤ 5000
    rw [show Str.length (Str.ofString "") = 0 by decide +kernel]
    omega
  have sm2 : Same H H2 := same_kp sm1 kp2 hp hfr hfo
  obtain ⟨dx2, e2⟩ := k2.ob
  repeat wtm_at "g"
  refine ⟨a, s1, fq1, tk1, n2, s2, fq2, tk2, rfl, k2, hl1, hR2, fun H3 r2 bs2 k3 kp3 sp' sfr sfo er2 t2 => ?_⟩
  have sm3 : Same H H3 := same_kp sm2 kp3 hp hfr hfo
  have er1' : H3 r1 = some (.lst (bs1.map V.ref)) := kp3 _ _ er1 rp rfr rfo
  have t1' : TokAt H3 bs1 (tk1.drop ([] : List Tk).length) := t1.mono (k2.tupKp kp3)
  obtain ⟨dx3, e3⟩ := k3.ob
  repeat wtm_at "g"
  refine ⟨r1, r2, _, _, rfl, rfl, er1', er2, ?_, fun l hl => ?_⟩
  · rw [List.length_map, List.length_map, t1'.len, t2.len, List.length_drop, List.length_drop]
    exact szL (by omega)
  have k4 := k3.new (o := .lst (bs1.map V.ref ++ bs2.map V.ref)) hl
  have sm4 : Same H (upd H3 l (.lst (bs1.map V.ref ++ bs2.map V.ref))) := fun b o e => by
    have e5 := sm3 b o e
    rw [upd_ne (ne_of_none e5 hl)]
    exact e5
  have tup4 : ∀ b xs, H3 b = some (.tup xs) → upd H3 l (.lst (bs1.map V.ref ++ bs2.map V.ref)) b = some (.tup xs) := fun b xs e => by
    rw [upd_ne (ne_of_none e hl)]
    exact e
  have t4 : TokAt (upd H3 l (.lst (bs1.map V.ref ++ bs2.map V.ref))) (bs1 ++ bs2) (tk1 ++ tk2.drop tk1.length) := TokAt.cat (t2.mono tup4) (t1'.mono tup4)
  have el : upd H3 l (.lst (bs1.map V.ref ++ bs2.map V.ref)) l = some (.lst ((bs1 ++ bs2).map V.ref)) := by
    rw [upd_same, List.map_append]
  generalize upd H3 l (.lst (bs1.map V.ref ++ bs2.map V.ref)) = H4 at k4 sm4 t4 el ⊢
  obtain ⟨dx4, e4⟩ := k4.ob
  repeat wtm_at "g"
  refine ⟨by show 2 ≤ sizeLine; decide, fun r hr' => ?_⟩
  refine q _ r l _ (fun b o e => ?_) upd_same ?_ (t4.mono fun b xs e => ?_)
  · have e5 := sm4 b o e
    rw [upd_ne (ne_of_none e5 hr')]
    exact e5
  · rw [upd_ne (ne_of_none el hr')]
    exact el
  · rw [upd_ne (ne_of_none e hr')]
    exact e
end
section
/-! ### the plain law: what the steps find in the four texts -/
theorem idx (A B : List Nat) (k : Nat) : (A ++ B)[A.length + k]? = B[k]? := by
  rw [List.getElem?_append_right (by omega)]
  congr 1
  omega
theorem drpK (A B : List Nat) (k : Nat) : (A ++ B).drop (A.length + k) = B.drop k := by
  rw [← List.drop_drop, List.drop_left]
theorem cut_is {z : Str} {A B C : List Nat} (h : tl z = A ++ (B ++ C)) {i j : Nat} (hi : i = A.length) (hj : j = i + B.length) : cut z i j = ⟨B.toArray⟩ := by
  subst hi hj
  refine ext_tl ?_
  rw [tl_win, h, List.drop_left, List.take_left]
theorem gap0 (l : List Nat) (i : Nat) : Gap l i i := ⟨Nat.le_refl _, fun m h1 h2 => by omega⟩
theorem gap1 {l : List Nat} {i : Nat} (h : l[i]? = some 32) : Gap l i (i + 1) := ⟨by omega, fun m h1 h2 => by
  have e : m = i := by omega
  subst e
  exact .inl h⟩
theorem sml {n : Nat} (h : Nat.ble n 900 = true) : n ≤ 900 := Nat.le_of_ble_eq_true h
theorem letA : 97 ∈ tl "abcdefghijklmnopqrstuvwxyzABCDEFGHIJKLMNOPQRSTUVWXYZ_" := by decide +kernel
theorem letB : 98 ∈ tl "abcdefghijklmnopqrstuvwxyzABCDEFGHIJKLMNOPQRSTUVWXYZ_" := by decide +kernel
theorem letF : 102 ∈ tl "abcdefghijklmnopqrstuvwxyzABCDEFGHIJKLMNOPQRSTUVWXYZ_" := by decide +kernel
theorem isW_let {c : Nat} (h : c ∈ tl "abcdefghijklmnopqrstuvwxyzABCDEFGHIJKLMNOPQRSTUVWXYZ_") : isW c = true := by
  unfold isW
  rw [decide_eq_true h, Bool.true_or]
theorem name1 {l : List Nat} {i c d : Nat} (h1 : l[i]? = some c) (h2 : isW c = true) (h3 : l[i + 1]? = some d) (h4 : isW d = false) : nameEnd l i = i + 1 := by
  rw [nameEnd_go h1 h2, nameEnd_stop h3 h4]
/-- a string's token stands at 2 -/
structure TokY (z : Str) (n : Nat) : Prop where
  ex : ∃ c, (tl z)[2]? = some c ∧ c ≠ 32 ∧ c ≠ 9 ∧ c ≠ 92 ∧ c ≠ 35 ∧ c ≠ 10 ∧ ∀ (s : S) (tk : List Tk), s.tx = z → s.at_ = 2 → LexR s c none tk (sLex s (2 + n)) none (tk ++ [tTk "STRING" s (2 + n)])
theorem plusB : l_OPERATORS.any (opMore ⟨#[43, 32, 98]⟩) = false ∧ l_OPERATORS.find? (fun g => Txt.startswith ⟨#[43, 32, 98]⟩ g) = some "+" ∧ ("+" : Str).length = 1 := by decide +kernel
/-- what reading gives: two runs and the tokens -/
def Gives (z : Str) (T : List Tk) : Prop := ∃ n1 n2 s1 fq1 tk1 s2 fq2 tk2, tk1.length ≤ 1000 ∧ tk2.length ≤ 1000 ∧ Runs n1 (s_0 z) none [] s1 fq1 tk1 ∧ Runs n2 { s1 with final := true } fq1 tk1 s2 fq2 tk2 ∧ tk1 ++ tk2.drop tk1.length = T
def endS (z : Str) (m : Nat) : S := { tx := z, at_ := m, fresh := true, begun := false, final := false, over := false, join := -1 }
theorem gives_of {z : Str} {m n : Nat} {tk T : List Tk} (h : Runs n (s_0 z) none [] (endS z m) none tk) (hm : m = z.length) (hz : z.length ≤ 5000) (hl : tk.length ≤ 900) (e : tk ++ [(("ENDMARKER" : Str), cut z m m, m)] = T) : Gives z T := by
  refine ⟨n, 0, endS z m, none, tk, atEnd { endS z m with final := true }, none, tk ++ [(("ENDMARKER" : Str), cut z m m, m)], by omega, ?_, h, .last 0 rfl hz hl (.ind rfl (.fin hm rfl rfl rfl)), ?_⟩
  · rw [List.length_append]
    rw [List.length_singleton]
    omega
  · rw [List.drop_left]
    exact e
theorem givesA {z : Str} {Y : List Nat} (hL : tl z = 97 :: 32 :: (Y ++ [32, 43, 32, 98, 10])) (hz : z.length ≤ 5000) (hY : TokY z Y.length) :
    Gives z [("NAME", "a", 0), ("STRING", ⟨Y.toArray⟩, 2), ("OP", "+", 2 + Y.length + 1), ("NAME", "b", 2 + Y.length + 3), ("NEWLINE", "\n", 2 + Y.length + 4), ("ENDMARKER", "", 2 + Y.length + 5)] := by
  obtain ⟨c, hc, c1, c2, c3, c4, c5, hlex⟩ := hY.ex
  have hLA : tl z = ([97, 32] ++ Y) ++ [32, 43, 32, 98, 10] := hL
  have hn : ([97, 32] ++ Y).length = 2 + Y.length := by simp; omega
  have at_ : ∀ k, (tl z)[2 + Y.length + k]? = ([32, 43, 32, 98, 10] : List Nat)[k]? := fun k => by rw [hLA, ← hn, idx]
  have hlen : z.length = 2 + Y.length + 5 := by rw [len_tl, hLA, List.length_append, hn]; rfl
  have a0 : (tl z)[0]? = some 97 := by rw [hL]; rfl
  have a1 : (tl z)[1]? = some 32 := by rw [hL]; rfl
  have w32 : isW 32 = false := by decide +kernel
  have w10 : isW 10 = false := by decide +kernel
  have cutA : cut z 0 1 = "a" := (cut_is (A := []) (B := [97]) (C := 32 :: (Y ++ [32, 43, 32, 98, 10])) hL rfl rfl).trans (by decide +kernel)
  have cutY : cut z 2 (2 + Y.length) = ⟨Y.toArray⟩ := cut_is (A := [97, 32]) (B := Y) hL rfl rfl
  have cutP : cut z (2 + Y.length + 1) (2 + Y.length + 1 + 1) = "+" := (cut_is (A := ([97, 32] ++ Y) ++ [32]) (B := [43]) (C := [32, 98, 10]) (by rw [hLA]; simp) (by rw [List.length_append, hn]; rfl) rfl).trans (by decide +kernel)
  have cutB : cut z (2 + Y.length + 3) (2 + Y.length + 3 + 1) = "b" := (cut_is (A := ([97, 32] ++ Y) ++ [32, 43, 32]) (B := [98]) (C := [10]) (by rw [hLA]; simp) (by rw [List.length_append, hn]; rfl) rfl).trans (by decide +kernel)
  have cutN : cut z (2 + Y.length + 4) (2 + Y.length + 4 + 1) = "\n" := (cut_is (A := ([97, 32] ++ Y) ++ [32, 43, 32, 98]) (B := [10]) (C := []) (by rw [hLA]; simp) (by rw [List.length_append, hn]; rfl) rfl).trans (by decide +kernel)
  have cutE : cut z (2 + Y.length + 5) (2 + Y.length + 5) = "" := (cut_is (A := ([97, 32] ++ Y) ++ [32, 43, 32, 98, 10]) (B := []) (C := []) (by rw [hLA]; simp) (by rw [List.length_append, hn]; rfl) rfl).trans (by decide +kernel)
  have cut3 : cut z (2 + Y.length + 1) (2 + Y.length + 1 + 3) = ⟨#[43, 32, 98]⟩ := cut_is (A := ([97, 32] ++ Y) ++ [32]) (B := [43, 32, 98]) (C := [10]) (by rw [hLA]; simp) (by rw [List.length_append, hn]; rfl) rfl
  refine gives_of (n := 6) (m := 2 + Y.length + 5) (tk := [(("NAME" : Str), cut z 0 1, 0), (("STRING" : Str), cut z 2 (2 + Y.length), 2), (("OP" : Str), cut z (2 + Y.length + 1) (2 + Y.length + 1 + 1), 2 + Y.length + 1), (("NAME" : Str), cut z (2 + Y.length + 3) (2 + Y.length + 3 + 1), 2 + Y.length + 3),
    (("NEWLINE" : Str), cut z (2 + Y.length + 4) (2 + Y.length + 4 + 1), 2 + Y.length + 4)]) ?_ hlen.symm hz (sml rfl) ?_
  · refine .more 5 rfl hz (sml rfl) (.ind rfl (.go 97 a0 (by decide) (by decide) (by decide) (by decide))) ?_
    refine .more 4 rfl hz (sml rfl) (.lex 0 97 rfl rfl rfl (gap0 _ _) a0 (by decide) (by decide) (by decide) (by decide) (by decide) (.word letA (.name none _ 1 32 (name1 a0 (isW_let letA) a1 w32) a1 (by decide) (by decide)))) ?_
    refine .more 3 rfl hz (sml rfl) (.lex 2 c rfl rfl rfl (gap1 a1) hc c1 c2 c3 c4 c5 (hlex _ _ rfl rfl)) ?_
    refine .more 2 rfl hz (sml rfl) (.lex (2 + Y.length + 1) 43 rfl rfl rfl (gap1 (at_ 0)) (at_ 1) (by decide) (by decide) (by decide) (by decide) (by decide) (.op _ "+" rfl ⟨by show l_OPERATORS.any (opMore (cut z (2 + Y.length + 1) (2 + Y.length + 1 + 3))) = false; rw [cut3]; exact plusB.1, by show l_OPERATORS.find? (fun g => Txt.startswith (cut z (2 + Y.length + 1) (2 + Y.length + 1 + 3)) g) = _; rw [cut3]; exact plusB.2.1, plusB.2.2⟩)) ?_
    refine .more 1 rfl hz (sml rfl) (.lex (2 + Y.length + 3) 98 rfl rfl rfl (gap1 (at_ 2)) (at_ 3) (by decide) (by decide) (by decide) (by decide) (by decide) (.word letB (.name none _ (2 + Y.length + 3 + 1) 10 (name1 (at_ 3) (isW_let letB) (at_ 4) w10) (at_ 4) (by decide) (by decide)))) ?_
    refine .more 0 rfl hz (sml rfl) (.lf (2 + Y.length + 4) rfl rfl (gap0 _ _) (at_ 4)) ?_
    exact .last 0 rfl hz (sml rfl) (.ind rfl (.more hlen.symm rfl))
  · rw [cutA, cutY, cutP, cutB, cutN, cutE]
    rfl
end
section
theorem at_drop {l : List Nat} {n : Nat} {r : List Nat} (h : l.drop n = r) (m : Nat) : l[n + m]? = r[m]? := by
  rw [← h, List.getElem?_drop]
theorem at_drop0 {l : List Nat} {n : Nat} {r : List Nat} (h : l.drop n = r) : l[n]? = r[0]? := at_drop h 0
theorem drop_more {l : List Nat} {n : Nat} {A r : List Nat} (h : l.drop n = A ++ r) : l.drop (n + A.length) = r := by
  rw [← List.drop_drop, h, List.drop_left]
theorem head_take {l q : List Nat} {i c : Nat} (h : (l.drop i).take (c :: q).length = c :: q) : l[i]? = some c := by
  have e : ((l.drop i).take (c :: q).length)[0]? = some c := by rw [h]; rfl
  rw [List.getElem?_take_of_lt (by rw [List.length_cons]; omega), List.getElem?_drop] at e
  exact e
/-! a plain string's token -/
theorem strEnd_of {l B q T : List Nat} {n c : Nat} (h : l.drop n = B ++ ((c :: q) ++ T)) (hc : c ≠ 92) (hB : ∀ b ∈ B, b ≠ c ∧ b ≠ 92 ∧ (q = [] → b ≠ 10)) : StrEnd l (c :: q) n (n + B.length) := by
  have hk := drop_more h
  have hck : l[n + B.length]? = some c := (at_drop0 hk).trans rfl
  refine ⟨by omega, (List.getElem?_eq_some_iff.mp hck).1, fun i h1 h2 => ?_, ?_, by rw [hk]; exact List.take_left⟩
  · obtain ⟨m, rfl⟩ : ∃ m, i = n + m := ⟨i - n, by omega⟩
    have hm : m < B.length := by omega
    have e : l[n + m]? = some B[m] := by
      rw [at_drop h m, List.getElem?_append_left hm, List.getElem?_eq_getElem hm]
    obtain ⟨b1, b2, b3⟩ := hB B[m] (List.getElem_mem hm)
    refine ⟨fun z => b2 ?_, fun z => b1 ?_, fun z => ?_⟩
    · rw [e] at z
      exact Option.some.inj z
    · have := head_take z
      rw [e] at this
      exact Option.some.inj this
    · obtain ⟨z1, z2⟩ := z
      rw [e] at z1
      have hq : q = [] := by
        cases q with
        | nil => rfl
        | cons _ _ => simp at z2
      exact b3 hq (Option.some.inj z1)
  · rw [hck]
    exact fun z => hc (Option.some.inj z)
theorem quote3 {z : Str} {n c : Nat} {r : List Nat} (h : (tl z).drop n = c :: c :: c :: r) : QuoteAt z n c ⟨#[c, c, c]⟩ := .three (by rw [h]; rfl)
theorem quote1 {z : Str} {n c d : Nat} {B T : List Nat} (h : (tl z).drop n = c :: (B ++ (c :: d :: T))) (hB : ∀ b ∈ B, b ≠ c) (hd : d ≠ c) : QuoteAt z n c ⟨#[c]⟩ := by
  refine .one (fun e => ?_) (fun e => ?_) (fun e => ?_)
  · rw [h] at e
    cases B with
    | nil =>
      have e2 : [c, c, d] = [c, c, c] := e
      injection e2 with _ e2
      injection e2 with _ e2
      injection e2 with e2 _
      exact hd e2
    | cons b B' =>
      have e2 : ([c, b] ++ (B' ++ (c :: d :: T)).take 1) = [c, c, c] := e
      have e3 : ([c, b] ++ (B' ++ (c :: d :: T)).take 1)[1]? = some c := by rw [e2]; rfl
      have e4 : b = c := Option.some.inj e3
      exact hB b (List.mem_cons_self ..) e4
  · have e2 : (tl z).length = n + 1 := by rw [← len_tl, e]
    have e3 := congrArg List.length h
    rw [List.length_drop, e2, List.length_cons, List.length_append, List.length_cons, List.length_cons] at e3
    omega
  · rw [h] at e
    have e3 := congrArg List.length e
    simp at e3
    omega
def prefixes : List (List Nat) := [[], [114], [66], [98, 82], [117]]
theorem pre_ok : ∀ p ∈ prefixes, (∀ c ∈ p, isW c = true ∧ c ∈ tl "abcdefghijklmnopqrstuvwxyzABCDEFGHIJKLMNOPQRSTUVWXYZ_" ∧ c ≠ 32 ∧ c ≠ 9 ∧ c ≠ 92 ∧ c ≠ 35 ∧ c ≠ 10) ∧ inV (.str (Txt.lower ⟨p.toArray⟩)) (l_PLAIN_PREFIXES.map V.str) = true := by decide +kernel
theorem nameEnd_run {l : List Nat} : ∀ (p : List Nat) (n : Nat) (c : Nat) (r : List Nat), l.drop n = p ++ (c :: r) → (∀ d ∈ p, isW d = true) → isW c = false → nameEnd l n = n + p.length
  | [], n, c, r, h, _, hc => nameEnd_stop ((at_drop0 h).trans rfl) hc
  | d :: p, n, c, r, h, hp, hc => by
    rw [nameEnd_go ((at_drop0 h).trans rfl) (hp d (List.mem_cons_self ..)), nameEnd_run p (n + 1) c r (drop_more (A := [d]) h) (fun x hx => hp x (List.mem_cons_of_mem _ hx)) hc, List.length_cons]
    omega
theorem quoteW {c : Nat} (h : c = 39 ∨ c = 34) : isW c = false := by rcases h with rfl | rfl <;> decide +kernel
/-- a prefix, the quote c :: q, an inside, the quote again: one string -/
theorem tokY_of {z : Str} {p q B : List Nat} {c : Nat} (hz : tl z = 97 :: 32 :: ((p ++ ((c :: q) ++ (B ++ (c :: q)))) ++ [32, 43, 32, 98, 10])) (hp : p ∈ prefixes) (hc : c = 39 ∨ c = 34) (hq : q = [] ∨ q = [c, c])
    (hB : ∀ b ∈ B, b ≠ 39 ∧ b ≠ 34 ∧ b ≠ 92 ∧ (q = [] → b ≠ 10)) : TokY z (p ++ ((c :: q) ++ (B ++ (c :: q)))).length := by
  obtain ⟨hp1, hp2⟩ := pre_ok p hp
  have hBc : ∀ b ∈ B, b ≠ c ∧ b ≠ 92 ∧ (q = [] → b ≠ 10) := fun b hb => by
    obtain ⟨b1, b2, b3, b4⟩ := hB b hb
    refine ⟨?_, b3, b4⟩
    rcases hc with rfl | rfl
    · exact b1
    · exact b2
  have d2 : (tl z).drop 2 = p ++ (c :: (q ++ (B ++ ((c :: q) ++ [32, 43, 32, 98, 10])))) := by
    rw [hz]
    show ((p ++ ((c :: q) ++ (B ++ (c :: q)))) ++ [32, 43, 32, 98, 10]) = _
    simp
  have dn : (tl z).drop (2 + p.length) = (c :: q) ++ (B ++ ((c :: q) ++ [32, 43, 32, 98, 10])) := drop_more d2
  have dq : (tl z).drop (2 + p.length + (c :: q).length) = B ++ ((c :: q) ++ [32, 43, 32, 98, 10]) := drop_more dn
  have hE := strEnd_of dq (by rcases hc with rfl | rfl <;> decide) hBc
  have hcn : (tl z)[2 + p.length]? = some c := (at_drop0 dn).trans rfl
  have hQ : QuoteAt z (2 + p.length) c ⟨(c :: q).toArray⟩ := by
    rcases hq with rfl | rfl
    · exact quote1 (B := B) (d := 32) (T := [43, 32, 98, 10]) dn (fun b hb => (hBc b hb).1) (by rcases hc with rfl | rfl <;> decide)
    · exact quote3 dn
  have hlq : (⟨(c :: q).toArray⟩ : Str).length = (c :: q).length := by simp [Str.length]
  have hE' : StrEnd (tl z) (tl ⟨(c :: q).toArray⟩) (2 + p.length + (⟨(c :: q).toArray⟩ : Str).length) (2 + p.length + (c :: q).length + B.length) := by
    rw [hlq]
    exact hE
  have hne : nameEnd (tl z) 2 = 2 + p.length := nameEnd_run p 2 c _ d2 (fun d hd => (hp1 d hd).1) (quoteW hc)
  have hcut : cut z 2 (2 + p.length) = ⟨p.toArray⟩ := cut_is (A := [97, 32]) (B := p) (C := ((c :: q) ++ (B ++ (c :: q))) ++ [32, 43, 32, 98, 10]) (by rw [hz, List.append_assoc]; rfl) rfl rfl
  have hend : 2 + p.length + (c :: q).length + B.length + (⟨(c :: q).toArray⟩ : Str).length = 2 + (p ++ ((c :: q) ++ (B ++ (c :: q)))).length := by
    rw [hlq]
    simp
    omega
  cases p with
  | nil =>
    have hc2 : (tl z)[2]? = some c := hcn
    refine ⟨c, hc2, ?_, ?_, ?_, ?_, ?_, fun s tk e1 e2 => ?_⟩
    · rcases hc with rfl | rfl <;> decide
    · rcases hc with rfl | rfl <;> decide
    · rcases hc with rfl | rfl <;> decide
    · rcases hc with rfl | rfl <;> decide
    · rcases hc with rfl | rfl <;> decide
    rw [← hend]
    subst e1
    exact .str none tk _ _ hc (by rw [e2]; exact hQ) (by rw [e2]; exact hE')
  | cons d p' =>
    obtain ⟨g1, g2, g3, g4, g5, g6, g7⟩ := hp1 d (List.mem_cons_self ..)
    refine ⟨d, (at_drop0 d2).trans rfl, g3, g4, g5, g6, g7, fun s tk e1 e2 => ?_⟩
    rw [← hend]
    subst e1
    exact .word g2 (.str none tk _ c _ _ (by rw [e2]; exact hne) hcn hc (by rw [e2, hcut]; exact hp2) hQ hE')
/-! a formatted string -/
/-- an inside whose braces stand in pairs, without quotes and backslashes -/
inductive DB : List Nat → Prop
  | nil : DB []
  | one (b : Nat) {D : List Nat} : b ≠ 92 → b ≠ 123 → b ≠ 125 → b ≠ 39 → b ≠ 34 → DB D → DB (b :: D)
  | two (b : Nat) {D : List Nat} : b = 123 ∨ b = 125 → DB D → DB (b :: b :: D)
theorem part_of {l T : List Nat} {c : Nat} (hc : c = 39 ∨ c = 34) {D : List Nat} (hD : DB D) : ∀ i : Nat, l.drop i = D ++ (c :: c :: c :: T) → PartRun l [c, c, c] i (i + D.length) := by
  induction hD with
  | nil => exact fun i h => .stop i c ((at_drop0 h).trans rfl) (by rcases hc with rfl | rfl <;> decide) (by rw [h]; rfl)
  | @one b D h1 h2 h3 h4 h5 _ ih =>
    intro i h
    have ib := at_drop0 h
    have hbc : b ≠ c := by
      rcases hc with rfl | rfl
      · exact h4
      · exact h5
    have r := ih (i + 1) (drop_more (A := [b]) h)
    rw [List.length_cons, show i + (D.length + 1) = i + 1 + D.length by omega]
    exact .one i _ b (ib.trans rfl) h1 h2 h3 (fun e => hbc (by
      have := head_take e
      rw [ib] at this
      exact Option.some.inj this)) r
  | @two b D h1 _ ih =>
    intro i h
    have ib := at_drop0 h
    have ib1 := at_drop h 1
    have hbc : b ≠ c := by rcases hc with rfl | rfl <;> rcases h1 with rfl | rfl <;> decide
    have r := ih (i + 2) (drop_more (A := [b, b]) h)
    rw [List.length_cons, List.length_cons, show i + (D.length + 1 + 1) = i + 2 + D.length by omega]
    exact .two i _ b (ib.trans rfl) h1 (ib1.trans rfl) (fun e => hbc (by
      have := head_take e
      rw [ib] at this
      exact Option.some.inj this)) r
theorem lowF : inV (.str (Txt.lower ⟨#[102]⟩)) (l_PLAIN_PREFIXES.map V.str) = false ∧ inV (.str (Txt.lower ⟨#[102]⟩)) (l_FORMATTED_PREFIXES.map V.str) = true := by decide +kernel
def midF (D : List Nat) : List Tk := if D = [] then [] else [(("FSTRING_MIDDLE" : Str), ⟨D.toArray⟩, 4)]
theorem givesF {z : Str} {D : List Nat} {c : Nat} (hL : tl z = 102 :: c :: c :: c :: (D ++ (c :: c :: c :: [10]))) (hz : z.length ≤ 5000) (hc : c = 39 ∨ c = 34) (hD : DB D) :
    Gives z ([(("FSTRING_START" : Str), (⟨#[102, c, c, c]⟩ : Str), 0)] ++ midF D ++ [(("FSTRING_END" : Str), (⟨#[c, c, c]⟩ : Str), 4 + D.length), (("NEWLINE" : Str), ("\n" : Str), 4 + D.length + 3), (("ENDMARKER" : Str), ("" : Str), 4 + D.length + 4)]) := by
  have d4 : (tl z).drop 4 = D ++ (c :: c :: c :: [10]) := by rw [hL]; rfl
  have dk : (tl z).drop (4 + D.length) = c :: c :: c :: [10] := drop_more d4
  have hlen : z.length = 4 + D.length + 4 := by
    rw [len_tl, hL]
    simp
    omega
  have a0 : (tl z)[0]? = some 102 := by rw [hL]; rfl
  have a1 : (tl z)[1]? = some c := by rw [hL]; rfl
  have hne : nameEnd (tl z) 0 = 1 := name1 a0 (isW_let letF) a1 (quoteW hc)
  have hcut1 : cut z 0 1 = ⟨#[102]⟩ := cut_is (A := []) (B := [102]) (C := c :: c :: c :: (D ++ (c :: c :: c :: [10]))) hL rfl rfl
  have cutS4 : cut z 0 4 = ⟨#[102, c, c, c]⟩ := cut_is (A := []) (B := [102, c, c, c]) (C := D ++ (c :: c :: c :: [10])) hL rfl rfl
  have cutD : cut z 4 (4 + D.length) = ⟨D.toArray⟩ := cut_is (A := [102, c, c, c]) (B := D) hL rfl rfl
  have hLA : tl z = ([102, c, c, c] ++ D) ++ (c :: c :: c :: [10]) := hL
  have hn : ([102, c, c, c] ++ D).length = 4 + D.length := by simp; omega
  have cutQ : cut z (4 + D.length) (4 + D.length + 3) = ⟨#[c, c, c]⟩ := cut_is (A := [102, c, c, c] ++ D) (B := [c, c, c]) (C := [10]) hLA hn.symm rfl
  have cutN : cut z (4 + D.length + 3) (4 + D.length + 3 + 1) = "\n" := (cut_is (A := ([102, c, c, c] ++ D) ++ [c, c, c]) (B := [10]) (C := []) (by rw [hLA]; simp) (by rw [List.length_append, hn]; rfl) rfl).trans (by decide +kernel)
  have cutE : cut z (4 + D.length + 4) (4 + D.length + 4) = "" := (cut_is (A := ([102, c, c, c] ++ D) ++ [c, c, c, 10]) (B := []) (C := []) (by rw [hLA]; simp) (by rw [List.length_append, hn]; rfl) rfl).trans (by decide +kernel)
  have lf3 : (tl z)[4 + D.length + 3]? = some 10 := (at_drop dk 3).trans rfl
  have hP := part_of (l := tl z) (T := [10]) hc hD 4 d4
  have mid : (if 4 < 4 + D.length then [(("FSTRING_MIDDLE" : Str), cut z 4 (4 + D.length), 4)] else []) = midF D := by
    unfold midF
    cases D with
    | nil => rfl
    | cons d D' =>
      rw [if_pos (by rw [List.length_cons]; omega), if_neg (by simp), cutD]
  have hm : (midF D).length ≤ 1 := by
    unfold midF
    split
    · exact Nat.zero_le _
    · exact Nat.le_refl _
  have c1 : c ≠ 123 := by rcases hc with rfl | rfl <;> decide
  have c2 : c ≠ 125 := by rcases hc with rfl | rfl <;> decide
  refine gives_of (n := 4) (m := 4 + D.length + 4) (tk := [] ++ [(("FSTRING_START" : Str), cut z 0 4, 0)] ++ (if 4 < 4 + D.length then [(("FSTRING_MIDDLE" : Str), cut z 4 (4 + D.length), 4)] else []) ++ [(("FSTRING_END" : Str), cut z (4 + D.length) (4 + D.length + 3), 4 + D.length)] ++ [(("NEWLINE" : Str), cut z (4 + D.length + 3) (4 + D.length + 3 + 1), 4 + D.length + 3)]) ?_ hlen.symm hz ?_ ?_
  · refine .more 3 rfl hz (sml rfl) (.ind rfl (.go 102 a0 (by decide) (by decide) (by decide) (by decide))) ?_
    refine .more 2 rfl hz (sml rfl) (.lex 0 102 rfl rfl rfl (gap0 _ _) a0 (by decide) (by decide) (by decide) (by decide) (by decide) (.word letF (.fst _ 1 c rfl hne a1 hc (by show inV (.str (Txt.lower (cut z 0 1))) _ = false; rw [hcut1]; exact lowF.1) (by show inV (.str (Txt.lower (cut z 0 1))) _ = true; rw [hcut1]; exact lowF.2) (by show ((tl z).drop 1).take 3 = [c, c, c]; rw [hL]; rfl)))) ?_
    refine .more 1 rfl hz (sml rfl) (.part _ c (4 + D.length) c1 c2 rfl hP) ?_
    refine .more 0 rfl hz ?_ (.lf (4 + D.length + 3) rfl rfl (gap0 _ _) lf3) ?_
    · show (([] ++ [(("FSTRING_START" : Str), cut z 0 4, 0)] ++ (if 4 < 4 + D.length then [(("FSTRING_MIDDLE" : Str), cut z 4 (4 + D.length), 4)] else []) ++ [(("FSTRING_END" : Str), cut z (4 + D.length) (4 + D.length + 3), 4 + D.length)] : List Tk)).length ≤ 900
      rw [mid, List.length_append, List.length_append]
      show 1 + (midF D).length + 1 ≤ 900
      omega
    · refine .last 0 rfl hz ?_ (.ind rfl (.more hlen.symm rfl))
      show (([] ++ [(("FSTRING_START" : Str), cut z 0 4, 0)] ++ (if 4 < 4 + D.length then [(("FSTRING_MIDDLE" : Str), cut z 4 (4 + D.length), 4)] else []) ++ [(("FSTRING_END" : Str), cut z (4 + D.length) (4 + D.length + 3), 4 + D.length)] ++ [(("NEWLINE" : Str), cut z (4 + D.length + 3) (4 + D.length + 3 + 1), 4 + D.length + 3)] : List Tk)).length ≤ 900
      rw [mid, List.length_append, List.length_append, List.length_append]
      show 1 + (midF D).length + 1 + 1 ≤ 900
      omega
  · rw [mid, List.length_append, List.length_append, List.length_append]
    show 1 + (midF D).length + 1 + 1 ≤ 900
    omega
  · rw [mid, cutS4, cutQ, cutN, cutE]
    simp
/-! comments -/
theorem givesC1 {z : Str} {I : List Nat} (hL : tl z = 97 :: 32 :: 35 :: (I ++ [10])) (hz : z.length ≤ 5000) (hI : ∀ b ∈ I, b ≠ 10) :
    Gives z [(("NAME" : Str), ("a" : Str), 0), (("COMMENT" : Str), (⟨(35 :: I).toArray⟩ : Str), 2), (("NEWLINE" : Str), ("\n" : Str), 3 + I.length), (("ENDMARKER" : Str), ("" : Str), 3 + I.length + 1)] := by
  have d3 : (tl z).drop 3 = I ++ [10] := by rw [hL]; rfl
  have dk : (tl z).drop (3 + I.length) = [10] := drop_more d3
  have hlen : z.length = 3 + I.length + 1 := by
    rw [len_tl, hL]
    simp
    omega
  have a0 : (tl z)[0]? = some 97 := by rw [hL]; rfl
  have a1 : (tl z)[1]? = some 32 := by rw [hL]; rfl
  have a2 : (tl z)[2]? = some 35 := by rw [hL]; rfl
  have ak : (tl z)[3 + I.length]? = some 10 := (at_drop0 dk).trans rfl
  have hf : Lf (tl z) 2 (3 + I.length) := by
    refine ⟨by omega, ak, fun i h1 h2 e => ?_⟩
    rcases Nat.lt_or_ge i 3 with h3 | h3
    · have e3 : i = 2 := by omega
      subst e3
      rw [a2] at e
      cases e
    · obtain ⟨m, rfl⟩ : ∃ m, i = 3 + m := ⟨i - 3, by omega⟩
      have hm : m < I.length := by omega
      rw [at_drop d3 m, List.getElem?_append_left hm, List.getElem?_eq_getElem hm] at e
      exact hI _ (List.getElem_mem hm) (Option.some.inj e)
  have cutA : cut z 0 1 = "a" := (cut_is (A := []) (B := [97]) (C := 32 :: 35 :: (I ++ [10])) hL rfl rfl).trans (by decide +kernel)
  have cutI : cut z 2 (3 + I.length) = ⟨(35 :: I).toArray⟩ := cut_is (A := [97, 32]) (B := 35 :: I) (C := [10]) hL rfl (by rw [List.length_cons]; omega)
  have cutN : cut z (3 + I.length) (3 + I.length + 1) = "\n" := (cut_is (A := [97, 32, 35] ++ I) (B := [10]) (C := []) (by rw [hL]; simp) (by simp; omega) rfl).trans (by decide +kernel)
  have cutE : cut z (3 + I.length + 1) (3 + I.length + 1) = "" := (cut_is (A := [97, 32, 35] ++ (I ++ [10])) (B := []) (C := []) (by rw [hL]; simp) (by simp; omega) rfl).trans (by decide +kernel)
  have w32 : isW 32 = false := by decide +kernel
  refine gives_of (n := 4) (m := 3 + I.length + 1) (tk := [(("NAME" : Str), cut z 0 1, 0), (("COMMENT" : Str), cut z 2 (3 + I.length), 2), (("NEWLINE" : Str), cut z (3 + I.length) (3 + I.length + 1), 3 + I.length)]) ?_ hlen.symm hz (sml rfl) ?_
  · refine .more 3 rfl hz (sml rfl) (.ind rfl (.go 97 a0 (by decide) (by decide) (by decide) (by decide))) ?_
    refine .more 2 rfl hz (sml rfl) (.lex 0 97 rfl rfl rfl (gap0 _ _) a0 (by decide) (by decide) (by decide) (by decide) (by decide) (.word letA (.name none _ 1 32 (name1 a0 (isW_let letA) a1 w32) a1 (by decide) (by decide)))) ?_
    refine .more 1 rfl hz (sml rfl) (.cmt 2 (3 + I.length) rfl rfl (gap1 a1) a2 hf) ?_
    refine .more 0 rfl hz (sml rfl) (.lf (3 + I.length) rfl rfl (gap0 _ _) ak) ?_
    exact .last 0 rfl hz (sml rfl) (.ind rfl (.more hlen.symm rfl))
  · rw [cutA, cutI, cutN, cutE]
    rfl
theorem givesC2 {z : Str} {I : List Nat} (hL : tl z = 35 :: (I ++ [10])) (hz : z.length ≤ 5000) (hI : ∀ b ∈ I, b ≠ 10) :
    Gives z [(("COMMENT" : Str), (⟨(35 :: I).toArray⟩ : Str), 0), (("NL" : Str), ("\n" : Str), 1 + I.length), (("ENDMARKER" : Str), ("" : Str), 1 + I.length + 1)] := by
  have d3 : (tl z).drop 1 = I ++ [10] := by rw [hL]; rfl
  have dk : (tl z).drop (1 + I.length) = [10] := drop_more d3
  have hlen : z.length = 1 + I.length + 1 := by
    rw [len_tl, hL]
    simp
    omega
  have a0 : (tl z)[0]? = some 35 := by rw [hL]; rfl
  have ak : (tl z)[1 + I.length]? = some 10 := (at_drop0 dk).trans rfl
  have hf : Lf (tl z) 0 (1 + I.length) := by
    refine ⟨by omega, ak, fun i h1 h2 e => ?_⟩
    rcases Nat.lt_or_ge i 1 with h3 | h3
    · have e3 : i = 0 := by omega
      subst e3
      rw [a0] at e
      cases e
    · obtain ⟨m, rfl⟩ : ∃ m, i = 1 + m := ⟨i - 1, by omega⟩
      have hm : m < I.length := by omega
      rw [at_drop d3 m, List.getElem?_append_left hm, List.getElem?_eq_getElem hm] at e
      exact hI _ (List.getElem_mem hm) (Option.some.inj e)
  have cutI : cut z 0 (1 + I.length) = ⟨(35 :: I).toArray⟩ := cut_is (A := []) (B := 35 :: I) (C := [10]) hL rfl (by rw [List.length_cons]; omega)
  have cutN : cut z (1 + I.length) (1 + I.length + 1) = "\n" := (cut_is (A := [35] ++ I) (B := [10]) (C := []) (by rw [hL]; simp) (by simp; omega) rfl).trans (by decide +kernel)
  have cutE : cut z (1 + I.length + 1) (1 + I.length + 1) = "" := (cut_is (A := [35] ++ (I ++ [10])) (B := []) (C := []) (by rw [hL]; simp) (by simp; omega) rfl).trans (by decide +kernel)
  refine gives_of (n := 1) (m := 1 + I.length + 1) (tk := [(("COMMENT" : Str), cut z 0 (1 + I.length), 0), (("NL" : Str), cut z (1 + I.length) (1 + I.length + 1), 1 + I.length)]) ?_ hlen.symm hz (sml rfl) ?_
  · refine .more 0 rfl hz (sml rfl) (.ind rfl (.cmt (1 + I.length) a0 hf (by show 0 < _; omega))) ?_
    exact .last 0 rfl hz (sml rfl) (.ind rfl (.more hlen.symm rfl))
  · rw [cutI, cutN, cutE]
    rfl
end
section
/-! ### reading, told whole; tokens compared -/
variable {K : PySem.W.Frag} {P : Program} {w : World} {base : Heap} {mg : Str → Option Value}
theorem app0 (z : Str) : "" ++ z = z := by
  refine ext_tl ?_
  rw [tl_append]
  rfl
def sp_readT : Sp := fun vs H Q _ => ∃ (z : Str) (T : List Tk), vs = [.str z] ∧ z.length ≤ 5000 ∧ Gives z T ∧
  ∀ H' r l bs, Same H H' → H' r = some (.tup [.ref l, .non]) → H' l = some (.lst (bs.map V.ref)) → TokAt H' bs T → Q (.ref r) H'
theorem readT (O : Ok P w K mg base 9 "read" p_read sp_read) : Ok P w K mg base 9 "read" p_read sp_readT := by
  refine O.imp fun vs H Q E h => ?_
  obtain ⟨z, T, rfl, hz, ⟨n1, n2, s1, fq1, tk1, s2, fq2, tk2, h1, h2, r1, r2, rfl⟩, q⟩ := h
  exact ⟨z, n1, n2, s1, fq1, tk1, s2, fq2, tk2, rfl, hz, h1, h2, by rw [app0]; exact r1, r2, q⟩
def tkD (t : Tk) : PyData := .tuple [.str t.1, .str t.2.1, .int (t.2.2 : Int)]
theorem tkD_plain (t : Tk) : (tkD t).plain = true := rfl
theorem tkD_depth (t : Tk) : (tkD t).depth = 1 := rfl
theorem tks_plain : ∀ T : List Tk, PyData.plainAll (T.map tkD) = true
  | [] => rfl
  | t :: T => by
    rw [List.map_cons, PyData.plainAll, tkD_plain, tks_plain T]
    rfl
theorem tks_depth : ∀ T : List Tk, PyData.depthAll (T.map tkD) ≤ 1
  | [] => Nat.zero_le _
  | t :: T => by
    rw [List.map_cons, PyData.depthAll, tkD_depth]
    exact Nat.max_le.mpr ⟨Nat.le_refl _, tks_depth T⟩
theorem TokAt.dp {H : Hp} : ∀ {as : List Addr} {T : List Tk}, TokAt H as T → DpAll K H (as.map V.ref) (T.map tkD)
  | [], [], _ => .nil
  | [], _ :: _, h => h.elim
  | _ :: _, [], h => h.elim
  | _ :: _, t :: _, h => .cons (.tup (SqT.of h.1) (.cons (.str _) (.cons (.str _) (.cons (.int _) .nil)))) (TokAt.dp h.2)
def rEqTk : R2 := fun x y H Q => ∃ r1 r2 l1 l2 b1 b2 T, x = .ref r1 ∧ y = .ref r2 ∧ H r1 = some (.tup [.ref l1, .non]) ∧ H r2 = some (.tup [.ref l2, .non]) ∧ H l1 = some (.lst (b1.map V.ref)) ∧ H l2 = some (.lst (b2.map V.ref)) ∧
  TokAt H b1 T ∧ TokAt H b2 T ∧ Q (.bl true) H
theorem op_eqTk {X : Cx} (hu : X.A.units + 64 < cLine) : OpR X (compareOp .Eq) rEqTk := by
  intro pins s σ H x y v u
  intro Q I rx ry h
  obtain ⟨r1, r2, l1, l2, b1, b2, T, rfl, rfl, e1, e2, f1, f2, t1, t2, q⟩ := h
  have d1 : Dp X.K H (.ref r1) (.tuple [.list (T.map tkD), .none]) := .tup (SqT.of e1) (.cons (.lst (SqL.of f1) t1.dp) (.cons .non .nil))
  have d2 : Dp X.K H (.ref r2) (.tuple [.list (T.map tkD), .none]) := .tup (SqT.of e2) (.cons (.lst (SqL.of f2) t2.dp) (.cons .non .nil))
  obtain ⟨as, q1⟩ := Dp.reads I _ _ _ d1 rx
  obtain ⟨bs, q2⟩ := Dp.reads I _ _ _ d2 ry
  have hp : (PyData.tuple [.list (T.map tkD), .none]).plain = true := by
    rw [PyData.plain, PyData.plainAll, PyData.plain, tks_plain]
    rfl
  refine SeqAt.eq_plain q1 q2 hp hp ?_ ⟨.bl _, H, I, rfl, ?_⟩
  · have h3 := tks_depth T
    have h4 : (PyData.tuple [.list (T.map tkD), .none]).depth ≤ 3 := by
      show max (PyData.depthAll (T.map tkD) + 1) (max 0 0) + 1 ≤ 3
      omega
    rw [Nat.min_self]
    omega
  · rw [SeqAt.eqv_refl_plain _ hp]
    exact q
/-- an argument list's term, closed under weaker ends -/
def tMonoA (t : TA) : TA := fun σ H Q => ∃ Q' : List V → Hp → Prop, t σ H Q' ∧ ∀ xs H', Q' xs H' → Q xs H'
theorem pa_mono {X : Cx} {es : List Expr} {t : TA} (h : PA X es t) : PA X es (tMonoA t) := by
  refine ⟨fun pos pins s σ H Q I q => ?_⟩
  obtain ⟨Q', q1, q2⟩ := q
  refine thn (h.run pos pins s σ H Q' I q1) fun us s1 r => ?_
  obtain ⟨xs, H1, I1, r1, r2⟩ := r
  exact ⟨xs, H1, I1, r1, q2 _ _ r2⟩
theorem pe_imp {X : Cx} {e : Expr} {t u : TE} (h : PE X e t) (i : ∀ σ H Q, u σ H Q → t σ H Q) : PE X e u := ⟨fun pins s σ H Q I q => h.run pins s σ H Q I (i _ _ _ q)⟩
theorem mk_same {H : Hp} {p : Addr} {o : HO} (hp : H p = none) : Same H (upd H p o) := fun b u e => by
  rw [upd_ne (ne_of_none e hp)]
  exact e
def tTupN (t : TA) : TE := fun σ H Q => t σ H fun xs H1 => xs.length ≤ 1000 ∧ ∀ B H', Same H1 H' → H' B = some (.tup xs) → Q (.ref B) H'
def tLstN (t : TA) : TE := fun σ H Q => t σ H fun xs H1 => xs.length ≤ 1000 ∧ ∀ B H', Same H1 H' → H1 B = none → H' B = some (.lst xs) → Q (.ref B) H'
theorem pe_tupN {X : Cx} {es : List Expr} {t : TA} {x1 : Nat} {pos : Pos} (h : PA X es t) : PE X (.Tuple es x1 pos) (tTupN t) :=
  pe_imp (pe_tup (pa_mono h)) fun σ H Q q => ⟨_, q, fun xs H1 r => ⟨szL (by omega), fun p hp => r.2 p _ (mk_same hp) upd_same⟩⟩
theorem pe_lstN {X : Cx} {es : List Expr} {t : TA} {pos : Pos} (h : PA X es t) : PE X (.List es pos) (tLstN t) :=
  pe_imp (pe_lst (pa_mono h)) fun σ H Q q => ⟨_, q, fun xs H1 r => ⟨szL (by omega), fun p hp => r.2 p _ (mk_same hp) hp upd_same⟩⟩
theorem g_tupN {tr : TA} {σ : L2.St} {Q : VK} {H : Hp} (q : tr σ H fun xs H1 => xs.length ≤ 1000 ∧ ∀ B H', Same H1 H' → H' B = some (.tup xs) → Q (.ref B) H') : tTupN tr σ H Q := q
theorem g_lstN {tr : TA} {σ : L2.St} {Q : VK} {H : Hp} (q : tr σ H fun xs H1 => xs.length ≤ 1000 ∧ ∀ B H', Same H1 H' → H1 B = none → H' B = some (.lst xs) → Q (.ref B) H') : tLstN tr σ H Q := q
theorem smk {n : Nat} (h : Nat.ble n 1000 = true) : n ≤ 1000 := Nat.le_of_ble_eq_true h
theorem g_catL {Q : VK} {H : Hp} {l b : Addr} {xs zs : List V} (e1 : H l = some (.lst xs)) (e2 : H b = some (.lst zs)) (hl : xs.length + zs.length ≤ 1000) (q : ∀ B H', Same H H' → H' B = some (.lst (xs ++ zs)) → Q (.ref B) H') : rCat (.ref l) (.ref b) H Q :=
  ⟨l, b, xs, zs, rfl, rfl, e1, e2, szL (by omega), fun p hp => q p _ (fun c o e => by rw [upd_ne (ne_of_none e hp)]; exact e) upd_same⟩
theorem g_repL {Q : VK} {H : Hp} {l : Addr} {k : Int} {xs : List V} (e1 : H l = some (.lst xs)) (h1 : 0 ≤ k) (h2 : k ≤ 1) (hl : xs.length ≤ 1000) (q : ∀ B H', Same H H' → H' B = some (.lst (List.replicate k.toNat xs).flatten) → Q (.ref B) H') : rRep (.ref l) (.int k) H Q :=
  ⟨l, k, xs, rfl, rfl, e1, by omega, by omega, szL (Nat.le_trans (Nat.mul_le_mul hl (show k.toNat ≤ 1 by omega)) (by decide)), fun p hp => q p _ (fun c o e => by rw [upd_ne (ne_of_none e hp)]; exact e) upd_same⟩
theorem tok_int {H : Hp} {B : Addr} {a b : Str} {i : Int} {n : Nat} (e : H B = some (.tup [.str a, .str b, .int i])) (h : i = (n : Int)) : H B = some (.tup [.str ((a, b, n) : Tk).1, .str ((a, b, n) : Tk).2.1, .int (((a, b, n) : Tk).2.2 : Int)]) := by
  subst h
  exact e
theorem TokAt.same {H H' : Hp} (k : Same H H') {as : List Addr} {ts : List Tk} (h : TokAt H as ts) : TokAt H' as ts := h.mono fun b xs e => k b _ e
theorem lenA {a b : Str} : (a ++ b).length = a.length + b.length := by
  rw [len_tl, tl_append, List.length_append, ← len_tl, ← len_tl]
theorem toA (y : Str) : (⟨(tl y).toArray⟩ : Str) = y := ext_tl (by simp [tl])
local macro_rules | `(tactic| wtm_at "w") => `(tactic| first | (with_reducible refine g_tupN ?_) | (with_reducible refine g_lstN ?_) | wtm_at "g")
/-! ### a string between two names -/
def sp_law_right : Sp := fun vs H Q _ => ∃ y : Str, vs = [.str "STRING", .str y] ∧ y.length ≤ 4000 ∧ (∀ z, tl z = 97 :: 32 :: (tl y ++ [32, 43, 32, 98, 10]) → TokY z (tl y).length) ∧ ∀ H', Same H H' → Q (.bl true) H'
theorem ok_law_right (T : Top K mg) (O_read : Ok P w K mg base 9 "read" p_read sp_readT) : Ok P w K mg base 10 "_law_right" p_law_right sp_law_right := by
  refine mkOk T.d_law_right T.g_law_right sc_law_right b_law_right (fun vs H Q E h => ?_) (fun f cdv A outer s H vs Q E hr h => ?_)
  · obtain ⟨y, rfl, _⟩ := h
    rfl
  obtain ⟨y, rfl, hy, hY, q⟩ := h
  refine ⟨_, (pss_cons (ps_set (i := 2) sc_law_right.nd rfl (Or.inl rfl) (pe_op op_addS (pe_op op_addS pe_str (pv 1)) pe_str)) (pss_cons (ps_set (i := 3) sc_law_right.nd rfl (Or.inl rfl) (pe_op op_add pe_int (pe_callB cr_lnS rfl T.f_len PySem.boot_len (pa_cons (pv 1) pa_nil)))) (pss_cons (ps_set (i := 4) sc_law_right.nd rfl (Or.inl rfl) (pe_lstN (pa_cons (pe_tupN (pa_cons pe_str (pa_cons pe_str (pa_cons pe_int pa_nil)))) (pa_cons (pe_tupN (pa_cons (pv 0) (pa_cons (pv 1) (pa_cons pe_int pa_nil)))) (pa_cons (pe_tupN (pa_cons pe_str (pa_cons pe_str (pa_cons (pe_op op_add (pv 3) pe_int) pa_nil)))) (pa_cons (pe_tupN (pa_cons pe_str (pa_cons pe_str (pa_cons (pe_op op_add (pv 3) pe_int) pa_nil)))) pa_nil)))))) (pss_one (ps_ret (pe_cmpR (op_eqTk hr.units) (pc O_read hr rfl (pa_cons (pv 2) pa_nil)) (pe_tupN (pa_cons (pe_op op_cat (pv 4) (pe_lstN (pa_cons (pe_tupN (pa_cons pe_str (pa_cons pe_str (pa_cons (pe_op op_add (pv 3) pe_int) pa_nil)))) (pa_cons (pe_tupN (pa_cons pe_str (pa_cons pe_str (pa_cons (pe_op op_add (pv 3) pe_int) pa_nil)))) pa_nil)))) (pa_cons pe_non pa_nil))) (nomark _))))))), ?_⟩
  try dsimp only [cxOf]
  refine g_start (σ := [some _, some _, none, none, none]) rfl ?_
  have l1 : ("a " : Str).length = 2 := by decide +kernel
  have l2 : (" + b\n" : Str).length = 5 := by decide +kernel
  have l3 : (("a " : Str) ++ y).length = 2 + y.length := by rw [lenA, l1]
  repeat wtm_at "w"
  refine g_addS (szL (by rw [l1]; omega)) ?_
  repeat wtm_at "w"
  refine g_addS (szL (by rw [l2]; omega)) ?_
  repeat wtm_at "w"
  have hz : (("a " : Str) ++ y ++ (" + b\n" : Str)).length ≤ 5000 := by
    rw [lenA]
    omega
  have etl : tl (("a " : Str) ++ y ++ (" + b\n" : Str)) = 97 :: 32 :: (tl y ++ [32, 43, 32, 98, 10]) := by
    rw [tl_append, tl_append]
    rfl
  generalize ("a " : Str) ++ y ++ (" + b\n" : Str) = z at hz etl ⊢
  have hG := givesA etl hz (hY z etl)
  rw [toA, ← len_tl] at hG
  refine ⟨smk rfl, fun B1 H1 s1 e1 => ?_⟩
  repeat wtm_at "w"
  refine ⟨smk rfl, fun B2 H2 s2 e2 => ?_⟩
  repeat wtm_at "w"
  refine ⟨smk rfl, fun B3 H3 s3 e3 => ?_⟩
  repeat wtm_at "w"
  refine ⟨smk rfl, fun B4 H4 s4 e4 => ?_⟩
  repeat wtm_at "w"
  refine ⟨smk rfl, fun L1 H5 s5 _ e5 => ?_⟩
  repeat wtm_at "w"
  have t1 : TokAt H5 [B1, B2, B3, B4] [("NAME", "a", 0), ("STRING", y, 2), ("OP", "+", 2 + y.length + 1), ("NAME", "b", 2 + y.length + 3)] :=
    ⟨s5 _ _ (s4 _ _ (s3 _ _ (s2 _ _ e1))), s5 _ _ (s4 _ _ (s3 _ _ e2)), s5 _ _ (s4 _ _ (tok_int e3 (by omega))), s5 _ _ (tok_int e4 (by omega)), trivial⟩
  refine ⟨z, _, rfl, hz, hG, fun H6 r l bs s6 er el tb => ?_⟩
  repeat wtm_at "w"
  refine ⟨smk rfl, fun B5 H7 s7 e7 => ?_⟩
  repeat wtm_at "w"
  refine ⟨smk rfl, fun B6 H8 s8 e8 => ?_⟩
  repeat wtm_at "w"
  refine ⟨smk rfl, fun L2 H9 s9 _ e9 => ?_⟩
  repeat wtm_at "w"
  have s59 : Same H5 H9 := ((s6.trans s7).trans s8).trans s9
  have s69 : Same H6 H9 := (s7.trans s8).trans s9
  refine g_catL (s59 _ _ e5) e9 (smk rfl) fun L3 H10 s10 e10 => ?_
  repeat wtm_at "w"
  refine ⟨smk rfl, fun R2 H11 s11 e11 => ?_⟩
  have s5' : Same H5 H11 := (s59.trans s10).trans s11
  have s6' : Same H6 H11 := (s69.trans s10).trans s11
  have s9' : Same H9 H11 := s10.trans s11
  have t2 : TokAt H11 [B5, B6] [("NEWLINE", "\n", 2 + y.length + 4), ("ENDMARKER", "", 2 + y.length + 5)] :=
    ⟨s9' _ _ (s9 _ _ (s8 _ _ (tok_int e7 (by omega)))), s9' _ _ (s9 _ _ (tok_int e8 (by omega))), trivial⟩
  refine ⟨r, R2, l, L3, bs, [B1, B2, B3, B4] ++ [B5, B6], _, rfl, rfl, s6' _ _ er, e11, s6' _ _ el, s11 _ _ e10, tb.same s6', TokAt.cat t2 (t1.same s5'), ?_⟩
  exact q _ ((((((s1.trans s2).trans s3).trans s4).trans s5)).trans s5')
end
section
variable {K : PySem.W.Frag} {P : Program} {w : World} {base : Heap} {mg : Str → Option Value}
local macro_rules | `(tactic| wtm_at "w") => `(tactic| first | (with_reducible refine g_tupN ?_) | (with_reducible refine g_lstN ?_) | wtm_at "g")
/-! ### a comment, behind a token and alone -/
def sp_law_comment_right : Sp := fun vs H Q _ => ∃ y : Str, vs = [.str y] ∧ y.length ≤ 4000 ∧ (∀ b ∈ tl y, b ≠ 10) ∧ ∀ H', Same H H' → Q (.bl true) H'
theorem ok_law_comment_right (T : Top K mg) (O_read : Ok P w K mg base 9 "read" p_read sp_readT) : Ok P w K mg base 10 "_law_comment_right" p_law_comment_right sp_law_comment_right := by
  refine mkOk T.d_law_comment_right T.g_law_comment_right sc_law_comment_right b_law_comment_right (fun vs H Q E h => ?_) (fun f cdv A outer s H vs Q E hr h => ?_)
  · obtain ⟨y, rfl, _⟩ := h
    rfl
  obtain ⟨y, rfl, hy, hI, q⟩ := h
  refine ⟨_, (pss_cons (ps_set (i := 1) sc_law_comment_right.nd rfl (Or.inl rfl) (pe_op op_add pe_int (pe_callB cr_lnS rfl T.f_len PySem.boot_len (pa_cons (pv 0) pa_nil)))) (pss_cons (ps_set (i := 2) sc_law_comment_right.nd rfl (Or.inl rfl) (pe_lstN (pa_cons (pe_tupN (pa_cons pe_str (pa_cons pe_str (pa_cons pe_int pa_nil)))) (pa_cons (pe_tupN (pa_cons pe_str (pa_cons (pe_op op_addS pe_str (pv 0)) (pa_cons pe_int pa_nil)))) (pa_cons (pe_tupN (pa_cons pe_str (pa_cons pe_str (pa_cons (pv 1) pa_nil)))) (pa_cons (pe_tupN (pa_cons pe_str (pa_cons pe_str (pa_cons (pe_op op_add (pv 1) pe_int) pa_nil)))) pa_nil)))))) (pss_cons (ps_set (i := 3) sc_law_comment_right.nd rfl (Or.inl rfl) (pe_lstN (pa_cons (pe_tupN (pa_cons pe_str (pa_cons (pe_op op_addS pe_str (pv 0)) (pa_cons pe_int pa_nil)))) (pa_cons (pe_tupN (pa_cons pe_str (pa_cons pe_str (pa_cons (pe_op op_sub (pv 1) pe_int) pa_nil)))) (pa_cons (pe_tupN (pa_cons pe_str (pa_cons pe_str (pa_cons (pe_op op_sub (pv 1) pe_int) pa_nil)))) pa_nil))))) (pss_one (ps_ret (pe_and (pe_cmpR (op_eqTk hr.units) (pc O_read hr rfl (pa_cons (pe_op op_addS (pe_op op_addS pe_str (pv 0)) pe_str) pa_nil)) (pe_tupN (pa_cons (pv 2) (pa_cons pe_non pa_nil))) (nomark _)) (pe_one (pe_cmpR (op_eqTk hr.units) (pc O_read hr rfl (pa_cons (pe_op op_addS (pe_op op_addS pe_str (pv 0)) pe_str) pa_nil)) (pe_tupN (pa_cons (pv 3) (pa_cons pe_non pa_nil))) (nomark _))))))))), ?_⟩
  try dsimp only [cxOf]
  refine g_start (σ := [some _, none, none, none]) rfl ?_
  have la : ("a #" : Str).length = 3 := by decide +kernel
  have lh : ("#" : Str).length = 1 := by decide +kernel
  have ln : ("\n" : Str).length = 1 := by decide +kernel
  have lay : (("a #" : Str) ++ y).length = 3 + y.length := by rw [lenA, la]
  have lhy : (("#" : Str) ++ y).length = 1 + y.length := by rw [lenA, lh]
  have ec : (⟨(35 :: tl y).toArray⟩ : Str) = ("#" : Str) ++ y := ext_tl (by rw [tl_append]; rfl)
  have e1 : tl (("a #" : Str) ++ y ++ ("\n" : Str)) = 97 :: 32 :: 35 :: (tl y ++ [10]) := by
    rw [tl_append, tl_append]
    rfl
  have e2 : tl (("#" : Str) ++ y ++ ("\n" : Str)) = 35 :: (tl y ++ [10]) := by
    rw [tl_append, tl_append]
    rfl
  have z1 : (("a #" : Str) ++ y ++ ("\n" : Str)).length ≤ 5000 := by
    rw [lenA]
    omega
  have z2 : (("#" : Str) ++ y ++ ("\n" : Str)).length ≤ 5000 := by
    rw [lenA]
    omega
  have G1 := givesC1 e1 z1 hI
  have G2 := givesC2 e2 z2 hI
  rw [ec, ← len_tl] at G1 G2
  repeat wtm_at "w"
  refine ⟨smk rfl, fun B1 H1 s1 b1 => ?_⟩
  repeat wtm_at "w"
  refine g_addS (szL (by rw [lh]; omega)) ?_
  repeat wtm_at "w"
  refine ⟨smk rfl, fun B2 H2 s2 b2 => ?_⟩
  repeat wtm_at "w"
  refine ⟨smk rfl, fun B3 H3 s3 b3 => ?_⟩
  repeat wtm_at "w"
  refine ⟨smk rfl, fun B4 H4 s4 b4 => ?_⟩
  repeat wtm_at "w"
  refine ⟨smk rfl, fun L1 H5 s5 _ l1 => ?_⟩
  repeat wtm_at "w"
  refine g_addS (szL (by rw [lh]; omega)) ?_
  repeat wtm_at "w"
  refine ⟨smk rfl, fun B6 H6 s6 b6 => ?_⟩
  repeat wtm_at "w"
  refine ⟨smk rfl, fun B7 H7 s7 b7 => ?_⟩
  repeat wtm_at "w"
  refine ⟨smk rfl, fun B8 H8 s8 b8 => ?_⟩
  repeat wtm_at "w"
  refine ⟨smk rfl, fun L2 H9 s9 _ l2 => ?_⟩
  have t1 : TokAt H5 [B1, B2, B3, B4] [(("NAME" : Str), ("a" : Str), 0), (("COMMENT" : Str), ("#" : Str) ++ y, 2), (("NEWLINE" : Str), ("\n" : Str), 3 + y.length), (("ENDMARKER" : Str), ("" : Str), 3 + y.length + 1)] :=
    ⟨s5 _ _ (s4 _ _ (s3 _ _ (s2 _ _ b1))), s5 _ _ (s4 _ _ (s3 _ _ b2)), s5 _ _ (s4 _ _ (tok_int b3 (by omega))), s5 _ _ (tok_int b4 (by omega)), trivial⟩
  have t2 : TokAt H9 [B6, B7, B8] [(("COMMENT" : Str), ("#" : Str) ++ y, 0), (("NL" : Str), ("\n" : Str), 1 + y.length), (("ENDMARKER" : Str), ("" : Str), 1 + y.length + 1)] :=
    ⟨s9 _ _ (s8 _ _ (s7 _ _ b6)), s9 _ _ (s8 _ _ (tok_int b7 (by omega))), s9 _ _ (tok_int b8 (by omega)), trivial⟩
  have s59 : Same H5 H9 := ((s6.trans s7).trans s8).trans s9
  have s09 : Same H H9 := ((((s1.trans s2).trans s3).trans s4).trans s5).trans s59
  replace t1 := t1.same s59
  replace l1 := s59 _ _ l1
  repeat wtm_at "w"
  refine g_addS (szL (by rw [la]; omega)) ?_
  repeat wtm_at "w"
  refine g_addS (szL (by rw [ln]; omega)) ?_
  repeat wtm_at "w"
  refine ⟨_, _, rfl, z1, G1, fun H10 r l bs s10 er el tb => ?_⟩
  repeat wtm_at "w"
  refine ⟨smk rfl, fun R1 H11 s11 r1 => ?_⟩
  have s911 := s10.trans s11
  refine ⟨r, R1, l, L1, bs, [B1, B2, B3, B4], _, rfl, rfl, s11 _ _ er, r1, s11 _ _ el, s911 _ _ l1, tb.same s11, t1.same s911, ?_⟩
  repeat wtm_at "w"
  refine g_ifT rfl ?_
  repeat wtm_at "w"
  refine g_addS (szL (by rw [lh]; omega)) ?_
  repeat wtm_at "w"
  refine g_addS (szL (by rw [ln]; omega)) ?_
  repeat wtm_at "w"
  refine ⟨_, _, rfl, z2, G2, fun H12 r' l' bs' s12 er' el' tb' => ?_⟩
  repeat wtm_at "w"
  refine ⟨smk rfl, fun R2 H13 s13 r2 => ?_⟩
  have s913 := (s911.trans s12).trans s13
  refine ⟨r', R2, l', L2, bs', [B6, B7, B8], _, rfl, rfl, s13 _ _ er', r2, s13 _ _ el', s913 _ _ l2, tb'.same s13, t2.same s913, ?_⟩
  exact q _ (s09.trans s913)
/-! ### a formatted string -/
def sp_law_formatted_right : Sp := fun vs H Q _ => ∃ (y : Str) (c : Nat), vs = [.str y, .str ⟨#[c, c, c]⟩] ∧ (c = 39 ∨ c = 34) ∧ y.length ≤ 4000 ∧ DB (tl y) ∧ ∀ H', Same H H' → Q (.bl true) H'
theorem str_nil {y : Str} : tl y = [] ↔ y = "" := ⟨fun h => ext_tl h, fun h => by rw [h]; rfl⟩
theorem ok_law_formatted_right (T : Top K mg) (O_read : Ok P w K mg base 9 "read" p_read sp_readT) : Ok P w K mg base 10 "_law_formatted_right" p_law_formatted_right sp_law_formatted_right := by
  refine mkOk T.d_law_formatted_right T.g_law_formatted_right sc_law_formatted_right b_law_formatted_right (fun vs H Q E h => ?_) (fun f cdv A outer s H vs Q E hr h => ?_)
  · obtain ⟨y, c, rfl, _⟩ := h
    rfl
  obtain ⟨y, c, rfl, hc, hy, hD, q⟩ := h
  refine ⟨_, (pss_cons (ps_set (i := 2) sc_law_formatted_right.nd rfl (Or.inl rfl) (pe_op op_addS (pe_op op_addS (pe_op op_addS (pe_op op_addS pe_str (pv 1)) (pv 0)) (pv 1)) pe_str)) (pss_cons (ps_set (i := 3) sc_law_formatted_right.nd rfl (Or.inl rfl) (pe_op op_add pe_int (pe_callB cr_lnS rfl T.f_len PySem.boot_len (pa_cons (pv 1) pa_nil)))) (pss_cons (ps_set (i := 4) sc_law_formatted_right.nd rfl (Or.inl rfl) (pe_op op_cat (pe_lstN (pa_cons (pe_tupN (pa_cons pe_str (pa_cons (pe_op op_addS pe_str (pv 1)) (pa_cons pe_int pa_nil)))) pa_nil)) (pe_op op_rep (pe_lstN (pa_cons (pe_tupN (pa_cons pe_str (pa_cons (pv 0) (pa_cons (pv 3) pa_nil)))) pa_nil)) (pe_callTy call_int1 rfl T.f_int (by decide +kernel) (pa_cons (pe_cmpR op_ne (pv 0) pe_str (nomark _)) pa_nil))))) (pss_cons (ps_set (i := 5) sc_law_formatted_right.nd rfl (Or.inl rfl) (pe_op op_add (pe_op op_add (pv 3) (pe_callB cr_lnS rfl T.f_len PySem.boot_len (pa_cons (pv 0) pa_nil))) (pe_callB cr_lnS rfl T.f_len PySem.boot_len (pa_cons (pv 1) pa_nil)))) (pss_cons (ps_set (i := 4) sc_law_formatted_right.nd rfl (Or.inl rfl) (pe_op op_cat (pv 4) (pe_lstN (pa_cons (pe_tupN (pa_cons pe_str (pa_cons (pv 1) (pa_cons (pe_op op_sub (pv 5) (pe_callB cr_lnS rfl T.f_len PySem.boot_len (pa_cons (pv 1) pa_nil))) pa_nil)))) (pa_cons (pe_tupN (pa_cons pe_str (pa_cons pe_str (pa_cons (pv 5) pa_nil)))) (pa_cons (pe_tupN (pa_cons pe_str (pa_cons pe_str (pa_cons (pe_op op_add (pv 5) pe_int) pa_nil)))) pa_nil)))))) (pss_one (ps_ret (pe_cmpR (op_eqTk hr.units) (pc O_read hr rfl (pa_cons (pv 2) pa_nil)) (pe_tupN (pa_cons (pv 4) (pa_cons pe_non pa_nil))) (nomark _))))))))), ?_⟩
  try dsimp only [cxOf]
  refine g_start (σ := [some _, some _, none, none, none, none]) rfl ?_
  have lf : ("f" : Str).length = 1 := by decide +kernel
  have ln : ("\n" : Str).length = 1 := by decide +kernel
  have lq : (⟨#[c, c, c]⟩ : Str).length = 3 := rfl
  have tq : tl (⟨#[c, c, c]⟩ : Str) = [c, c, c] := rfl
  have et : tl (("f" : Str) ++ ⟨#[c, c, c]⟩ ++ y ++ ⟨#[c, c, c]⟩ ++ ("\n" : Str)) = 102 :: c :: c :: c :: (tl y ++ (c :: c :: c :: [10])) := by
    rw [tl_append, tl_append, tl_append, tl_append, tq]
    show (((102 :: [c, c, c]) ++ tl y) ++ [c, c, c]) ++ [10] = _
    simp
  have hz : (("f" : Str) ++ ⟨#[c, c, c]⟩ ++ y ++ ⟨#[c, c, c]⟩ ++ ("\n" : Str)).length ≤ 5000 := by
    rw [lenA, lenA, lenA, lenA, lf, ln, lq]
    omega
  have eS : (⟨#[102, c, c, c]⟩ : Str) = ("f" : Str) ++ ⟨#[c, c, c]⟩ := ext_tl (by rw [tl_append, tq]; rfl)
  have G1 := givesF et hz hc hD
  rw [eS, ← len_tl] at G1
  generalize hqq : (⟨#[c, c, c]⟩ : Str) = qs at lq tq et hz eS G1 ⊢
  have a1 : (("f" : Str) ++ qs).length = 4 := by rw [lenA, lf, lq]
  have a2 : (("f" : Str) ++ qs ++ y).length = 4 + y.length := by rw [lenA, a1]
  have a3 : (("f" : Str) ++ qs ++ y ++ qs).length = 4 + y.length + 3 := by rw [lenA, a2, lq]
  repeat wtm_at "w"
  refine g_addS (szL (by rw [lf]; omega)) ?_
  repeat wtm_at "w"
  refine g_addS (szL (by omega)) ?_
  repeat wtm_at "w"
  refine g_addS (szL (by omega)) ?_
  repeat wtm_at "w"
  refine g_addS (szL (by rw [ln]; omega)) ?_
  repeat wtm_at "w"
  generalize ("f" : Str) ++ qs ++ y ++ qs ++ ("\n" : Str) = z at hz et G1 a3 ⊢
  refine g_addS (szL (by rw [lf]; omega)) ?_
  repeat wtm_at "w"
  refine ⟨smk rfl, fun B1 H1 s1 b1 => ?_⟩
  repeat wtm_at "w"
  refine ⟨smk rfl, fun L1 H2 s2 _ l1 => ?_⟩
  repeat wtm_at "w"
  refine ⟨smk rfl, fun B2 H3 s3 b2 => ?_⟩
  repeat wtm_at "w"
  refine ⟨smk rfl, fun L2 H4 s4 _ l2 => ?_⟩
  repeat wtm_at "w"
  refine .inr ⟨_, rfl, ?_⟩
  refine g_repL l2 (by split <;> decide) (by split <;> decide) (smk rfl) fun L3 H5 s5 l3 => ?_
  obtain ⟨ms, em, tm⟩ : ∃ ms : List Addr, (List.replicate (if (!decide (V.str y = V.str "")) = true then (1 : Int) else 0).toNat [V.ref B2]).flatten = ms.map V.ref ∧ TokAt H5 ms (midF (tl y)) := by
    by_cases hn : tl y = []
    · refine ⟨[], ?_, ?_⟩
      · rw [str_nil.mp hn]
        rfl
      · rw [hn]
        exact trivial
    · refine ⟨[B2], ?_, ?_⟩
      · rw [decide_eq_false (fun e => hn (str_nil.mpr (by injection e)))]
        rfl
      · unfold midF
        rw [if_neg hn, toA]
        exact ⟨s5 _ _ (s4 _ _ (tok_int b2 (by rw [lq]; rfl))), trivial⟩
  rw [em] at l3
  have hm : ms.length ≤ 1 := by
    rw [tm.len]
    unfold midF
    split
    · exact Nat.zero_le _
    · exact Nat.le_refl _
  have s25 : Same H2 H5 := (s3.trans s4).trans s5
  refine g_catL (s25 _ _ l1) l3 (by rw [List.length_map]; show 1 + _ ≤ _; omega) fun L4 H6 s6 l4 => ?_
  repeat wtm_at "w"
  refine ⟨smk rfl, fun B3 H7 s7 b3 => ?_⟩
  repeat wtm_at "w"
  refine ⟨smk rfl, fun B4 H8 s8 b4 => ?_⟩
  repeat wtm_at "w"
  refine ⟨smk rfl, fun B5 H9 s9 b5 => ?_⟩
  repeat wtm_at "w"
  refine ⟨smk rfl, fun L5 H10 s10 _ l5 => ?_⟩
  have s610 : Same H6 H10 := ((s7.trans s8).trans s9).trans s10
  refine g_catL (s610 _ _ l4) l5 (by rw [List.length_append, List.length_map]; show 1 + _ + 3 ≤ _; omega) fun L6 H11 s11 l6 => ?_
  have t0 : TokAt H11 [B1] [(("FSTRING_START" : Str), ("f" : Str) ++ qs, 0)] := ⟨s11 _ _ (s610 _ _ (s6 _ _ (s25 _ _ (s2 _ _ b1)))), trivial⟩
  have t1 : TokAt H11 ms (midF (tl y)) := tm.same ((s6.trans s610).trans s11)
  have t2 : TokAt H11 [B3, B4, B5] [(("FSTRING_END" : Str), qs, 4 + y.length), (("NEWLINE" : Str), ("\n" : Str), 4 + y.length + 3), (("ENDMARKER" : Str), ("" : Str), 4 + y.length + 4)] :=
    ⟨s11 _ _ (s10 _ _ (s9 _ _ (s8 _ _ (tok_int b3 (by omega))))), s11 _ _ (s10 _ _ (s9 _ _ (tok_int b4 (by omega)))), s11 _ _ (s10 _ _ (tok_int b5 (by omega))), trivial⟩
  have tt := TokAt.cat t2 (TokAt.cat t1 t0)
  have l6' : H11 L6 = some (.lst ((([B1] ++ ms) ++ [B3, B4, B5]).map V.ref)) := by
    rw [List.map_append, List.map_append]
    exact l6
  have s011 : Same H H11 := ((((s1.trans s2).trans s25).trans s6).trans s610).trans s11
  repeat wtm_at "w"
  refine ⟨z, _, rfl, hz, G1, fun H12 r l bs s12 er el tb => ?_⟩
  repeat wtm_at "w"
  refine ⟨smk rfl, fun R1 H13 s13 r1 => ?_⟩
  have s1113 := s12.trans s13
  refine ⟨r, R1, l, L6, bs, _, _, rfl, rfl, s13 _ _ er, r1, s13 _ _ el, s1113 _ _ l6', tb.same s13, tt.same s1113, ?_⟩
  exact q _ (s011.trans s1113)
/-! ### a text without some characters -/
def wo (x : Str) (L : List Nat) : Str := ⟨((tl x).filter fun c => !decide (c ∈ L)).toArray⟩
theorem tl_wo (x : Str) (L : List Nat) : tl (wo x L) = (tl x).filter fun c => !decide (c ∈ L) := by simp [wo, tl]
theorem wo_len (x : Str) (L : List Nat) : (wo x L).length ≤ x.length := by
  rw [len_tl, tl_wo, len_tl]
  exact List.length_filter_le _ _
theorem wo_out {x : Str} {L : List Nat} {b : Nat} (h : b ∈ tl (wo x L)) : b ∈ tl x ∧ b ∉ L := by
  rw [tl_wo, List.mem_filter] at h
  exact ⟨h.1, by simpa using h.2⟩
theorem join_sg : ∀ l : List Nat, joinL [] (l.map fun c => [c]) = l
  | [] => rfl
  | [_] => rfl
  | a :: b :: r => by
    have := join_sg (b :: r)
    show [a] ++ ([] ++ joinL [] ([b] :: r.map fun c => [c])) = _
    rw [show joinL [] ([b] :: r.map fun c => [c]) = b :: r from this]
    rfl
theorem sum_sg : ∀ l : List Nat, ((l.map fun c => (⟨#[c]⟩ : Str)).map (·.length)).sum = l.length
  | [] => rfl
  | a :: r => by
    rw [List.map_cons, List.map_cons, List.sum_cons, sum_sg r, List.length_cons]
    show 1 + r.length = _
    omega
def sp_law_without : Sp := fun vs H Q _ => ∃ x sg : Str, vs = [.str x, .str sg] ∧ x.length ≤ 5000 ∧ ∀ H', Same H H' → Q (.str (wo x (tl sg))) H'
theorem ok_law_without (T : Top K mg) : Ok P w K mg base 1 "_law_without" p_law_without sp_law_without := by
  refine mkOk T.d_law_without T.g_law_without sc_law_without b_law_without (fun vs H Q E h => ?_) (fun f cdv A outer s H vs Q E hr h => ?_)
  · obtain ⟨x, sg, rfl, _⟩ := h
    rfl
  obtain ⟨x, sg, rfl, hx, q⟩ := h
  refine ⟨_, (pss_one (ps_ret (pe_join pe_str (pe_lc (own := [("_law_sign", 2)]) (g := gName 2) rfl sc_law_without.nd (pi_str (pv 0)) (blkOk_by (own := [("_law_sign", 2)]) (N := n_law_without) (sc := defScope s_law_without) (by decide +kernel)) (fun _ _ _ _ _ => pg_name (i := 2) sc_law_without.nd rfl (Or.inl rfl)) (fun _ _ _ _ _ => pts_one (pt_cmpR op_notInS (pv 2) (pv 1) rfl)) (fun _ _ _ _ _ => (pv 2)))))), ?_⟩
  try dsimp only [cxOf]
  refine g_start (σ := [some _, some _, none]) rfl ?_
  repeat wtm_at "w"
  have hsz : x.cps.size = (tl x).length := by simp [tl]
  have hxl : (tl x).length ≤ 5000 := by
    rw [← len_tl]
    exact hx
  refine ⟨_, rfl, x, rfl, fun D hD => lc_it walk_str (fun i H' => H' = upd H D (.lst ((((tl x).take i).filter fun c => !decide (c ∈ tl sg)).map fun c => V.str ⟨#[c]⟩))) rfl (fun _ _ _ _ => trivial) ?_ ?_⟩
  · rintro i v H1 H2 hi rfl ⟨rfl, c, hc, rfl⟩
    have hc' : (tl x)[i]? = some c := by simpa [tl] using hc
    have ht : (tl x).take (i + 1) = (tl x).take i ++ [c] := by
      rw [List.take_add_one, hc']
      rfl
    refine g_name ⟨rfl, ?_⟩
    repeat wtm_at "w"
    refine g_if2 (fun hb => ?_) (fun hb => ?_)
    · repeat wtm_at "w"
      refine ⟨_, upd_same, ?_, ?_⟩
      · refine Nat.lt_of_le_of_lt ?_ (show 5000 < sizeLine by decide)
        rw [List.length_map]
        refine Nat.le_trans (List.length_filter_le _ _) (Nat.le_trans ?_ hxl)
        rw [List.length_take]
        exact Nat.min_le_right _ _
      · rw [upd_upd, ht, List.filter_append, List.map_append]
        have e : [c].filter (fun c => !decide (c ∈ tl sg)) = [c] := by
          show (match (!decide (c ∈ tl sg)) with | true => [c] | false => []) = [c]
          rw [hb]
        rw [e]
        rfl
    · rw [ht, List.filter_append, List.map_append]
      have e : [c].filter (fun c => !decide (c ∈ tl sg)) = [] := by
        show (match (!decide (c ∈ tl sg)) with | true => [c] | false => []) = []
        rw [hb]
      rw [e, List.map_nil, List.append_nil]
  · rintro H1 rfl
    rw [hsz, List.take_length]
    refine ⟨"", D, ((tl x).filter fun c => !decide (c ∈ tl sg)).map fun c => (⟨#[c]⟩ : Str), rfl, rfl, .inl (SqL.of (by rw [List.map_map]; exact upd_same)), ?_, ?_⟩
    · rw [sum_sg]
      have h1 := List.length_filter_le (fun c => !decide (c ∈ tl sg)) (tl x)
      have h2 : ("" : Str).length = 0 := rfl
      rw [h2]
      omega
    · have e : Txt.join "" (((tl x).filter fun c => !decide (c ∈ tl sg)).map fun c => (⟨#[c]⟩ : Str)) = wo x (tl sg) := by
        refine ext_tl ?_
        rw [join_eq, tl_join, tl_wo, List.map_map]
        exact join_sg _
      rw [e]
      exact q _ (mk_same hD)
end
section
variable {K : PySem.W.Frag} {P : Program} {w : World} {base : Heap} {mg : Str → Option Value}
local macro_rules | `(tactic| wtm_at "w") => `(tactic| first | (with_reducible refine g_tupN ?_) | (with_reducible refine g_lstN ?_) | wtm_at "g")
/-! ### the bag of numbers that the law draws from -/
/-- three numbers, the last a count of at most c -/
def BagAt (H : Hp) (p : Addr) (c : Nat) : Prop := ∃ x y z : Int, H p = some (.lst [.int x, .int y, .int z]) ∧ 0 ≤ z ∧ z ≤ (c : Int)
/-- all but p is kept -/
def Kp1 (H H' : Hp) (p : Addr) : Prop := ∀ b o, H b = some o → b ≠ p → H' b = some o
theorem Kp1.refl (H : Hp) (p : Addr) : Kp1 H H p := fun _ _ e _ => e
theorem Kp1.trans {H H1 H2 : Hp} {p : Addr} (k : Kp1 H H1 p) (l : Kp1 H1 H2 p) : Kp1 H H2 p := fun b o e n => l b o (k b o e n) n
theorem Kp1.same {H H1 : Hp} {p : Addr} (k : Same H H1) : Kp1 H H1 p := fun b o e _ => k b o e
theorem Kp1.set {H : Hp} {p : Addr} {o : HO} : Kp1 H (upd H p o) p := fun b u e n => by
  rw [upd_ne n]
  exact e
theorem Kp1.free {H H' : Hp} {p : Addr} (k : Kp1 H H' p) (h : H p = none) : Same H H' := fun b o e => k b o e (ne_of_none e h)
theorem BagAt.more {H : Hp} {p : Addr} {c d : Nat} (h : BagAt H p c) (l : c ≤ d) : BagAt H p d := by
  obtain ⟨x, y, z, e, z1, z2⟩ := h
  exact ⟨x, y, z, e, z1, by omega⟩
theorem BagAt.same {H H' : Hp} {p : Addr} {c : Nat} (h : BagAt H p c) (k : Same H H') : BagAt H' p c := by
  obtain ⟨x, y, z, e, z1, z2⟩ := h
  exact ⟨x, y, z, k _ _ e, z1, z2⟩
theorem BagAt.ne {H : Hp} {p l : Addr} {c : Nat} {xs : List Str} (h : BagAt H p c) (e : H l = some (.lst (xs.map V.str))) : l ≠ p := by
  obtain ⟨x, y, z, e', _⟩ := h
  refine ne_of e e' fun q => ?_
  injection q with q
  cases xs with
  | nil => cases q
  | cons a r =>
    injection q with q _
    cases q
theorem fmod_nat {x : Int} {m : Nat} (h : 0 < m) : ∃ r : Nat, Int.fmod x (m : Int) = (r : Int) ∧ r < m := by
  rw [Int.fmod_eq_emod_of_nonneg x (Int.natCast_nonneg m)]
  have h1 := Int.emod_nonneg x (b := (m : Int)) (by omega)
  have h2 := Int.emod_lt_of_pos x (b := (m : Int)) (by omega)
  exact ⟨(x % (m : Int)).toNat, by omega, by omega⟩
theorem fmod_lt {x m : Int} (h : 0 < m) : 0 ≤ Int.fmod x m ∧ Int.fmod x m < m := by
  rw [Int.fmod_eq_emod_of_nonneg x (by omega)]
  exact ⟨Int.emod_nonneg x (by omega), Int.emod_lt_of_pos x h⟩
theorem fdiv16 {x : Int} (h : 0 ≤ x) (h2 : x < 2147483647) : 0 ≤ Int.fdiv x 16 ∧ Int.fdiv x 16 < 2147483647 := by
  rw [Int.fdiv_eq_ediv_of_nonneg x (by decide)]
  omega
theorem g_set3 {H : Hp} {p : Addr} {xs : List V} {i : Int} {v : V} {j : Nat} {R : Hp → Prop} (e : H p = some (.lst xs)) (hj : ixN xs.length i = some j) (q : R (upd H p (.lst (xs.set j v)))) : rSetL (.ref p) (.int i) v H R := ⟨p, xs, i, j, rfl, rfl, e, hj, q⟩
theorem g_sub {to ti : TE} {t : TSet} {v : V} {σ : L2.St} {H : Hp} {Q : L2.St → Hp → Prop} (q : to σ H fun o H1 => ti σ H1 fun i H2 => t o i v H2 fun H3 => Q σ H3) : gSub to ti t v σ H Q := q
theorem g_abs {i : Int} {H : Hp} {Q : VK} (q : Q (.int (if i < 0 then -i else i)) H) : ∃ k, [V.int i] = [.int k] ∧ Q (.int (if k < 0 then -k else k)) H := ⟨i, rfl, q⟩
def sp_law_take : Sp := fun vs H Q _ => ∃ (p : Addr) (m c : Nat), vs = [.ref p, .int (m : Int)] ∧ 0 < m ∧ m ≤ 100000 ∧ BagAt H p c ∧ c ≤ 1000000 ∧ ∀ H' (r : Nat), r < m → Kp1 H H' p → BagAt H' p (c + 1) → Q (.int (r : Int)) H'
theorem ok_law_take (T : Top K mg) : Ok P w K mg base 1 "_law_take" p_law_take sp_law_take := by
  refine mkOk T.d_law_take T.g_law_take sc_law_take b_law_take (fun vs H Q E h => ?_) (fun f cdv A outer s H vs Q E hr h => ?_)
  · obtain ⟨p, m, c, rfl, _⟩ := h
    rfl
  obtain ⟨p, m, c, rfl, hm0, hm, ⟨x, y, z, e, z1, z2⟩, hc, q⟩ := h
  refine ⟨_, (pss_cons (ps_if (pt_cmpR op_gt (pe_ix ix_list (pv 0) pe_int (fun _ _ => rfl)) pe_int (nomark _)) (pss_cons (ps_set (i := 2) sc_law_take.nd rfl (Or.inl rfl) (pe_op op_modN (pe_ix ix_list (pv 0) pe_int (fun _ _ => rfl)) (pv 1))) (pss_cons (ps_asg (pe_op op_fdivN (pe_ix ix_list (pv 0) pe_int (fun _ _ => rfl)) (pv 1)) (pg_sub (pv 0) pe_int set_list)) (pss_one (ps_ret (pv 2))))) pss_nil) (pss_cons (ps_asg (pe_op op_add (pe_ix ix_list (pv 0) pe_int (fun _ _ => rfl)) pe_int) (pg_sub (pv 0) pe_int set_list)) (pss_cons (ps_asg (pe_op op_modN (pe_op op_add (pe_op op_add (pe_op op_mul (pe_ix ix_list (pv 0) pe_int (fun _ _ => rfl)) pe_int) (pe_op op_mul (pe_op op_mul pe_int (pe_ix ix_list (pv 0) pe_int (fun _ _ => rfl))) (pe_ix ix_list (pv 0) pe_int (fun _ _ => rfl)))) pe_int) pe_int) (pg_sub (pv 0) pe_int set_list)) (pss_one (ps_ret (pe_op op_modN (pe_op op_modN (pe_op op_pow (pe_op op_fdivN (pe_ix ix_list (pv 0) pe_int (fun _ _ => rfl)) pe_int) pe_int) pe_int) (pv 1))))))), ?_⟩
  try dsimp only [cxOf]
  refine g_start (σ := [some _, some _, none]) rfl ?_
  repeat wtm_at "w"
  refine g_ixL (v := .int x) (SqL.of e) rfl ?_
  repeat wtm_at "w"
  refine g_if2 (fun hx => ?_) (fun hx => ?_)
  · repeat wtm_at "w"
    refine g_ixL (v := .int x) (SqL.of e) rfl ?_
    repeat wtm_at "w"
    refine g_I (by omega) ?_
    obtain ⟨r, er, hr'⟩ := fmod_nat (x := x) hm0
    rw [er]
    repeat wtm_at "w"
    refine g_ixL (v := .int x) (SqL.of e) rfl ?_
    repeat wtm_at "w"
    refine g_I ⟨by omega, by omega⟩ ?_
    refine g_sub ?_
    repeat wtm_at "w"
    refine g_set3 (j := 0) e rfl ?_
    repeat wtm_at "w"
    exact q _ r hr' Kp1.set ⟨_, y, z, upd_same, z1, by omega⟩
  · repeat wtm_at "w"
    refine g_ixL (v := .int z) (SqL.of e) rfl ?_
    repeat wtm_at "w"
    refine g_sub ?_
    repeat wtm_at "w"
    refine g_set3 (j := 2) e rfl ?_
    have e1 : upd H p (.lst ([V.int x, V.int y, V.int z].set 2 (V.int (z + 1)))) p = some (.lst [V.int x, V.int y, V.int (z + 1)]) := upd_same
    have k1 : Kp1 H (upd H p (.lst ([V.int x, V.int y, V.int z].set 2 (V.int (z + 1))))) p := Kp1.set
    generalize upd H p (.lst ([V.int x, V.int y, V.int z].set 2 (V.int (z + 1)))) = H1 at e1 k1 ⊢
    repeat wtm_at "w"
    refine g_ixL (v := .int y) (SqL.of e1) rfl ?_
    repeat wtm_at "w"
    refine g_I (.inr ⟨by decide, by decide⟩) ?_
    repeat wtm_at "w"
    refine g_ixL (v := .int (z + 1)) (SqL.of e1) rfl ?_
    repeat wtm_at "w"
    refine g_I (.inl ⟨by decide, by decide⟩) ?_
    repeat wtm_at "w"
    refine g_ixL (v := .int (z + 1)) (SqL.of e1) rfl ?_
    repeat wtm_at "w"
    refine g_I (.inr ⟨by omega, by omega⟩) ?_
    repeat wtm_at "w"
    refine g_I (by decide) ?_
    obtain ⟨u1, u2⟩ := fmod_lt (x := y * 48271 + 6607 * (z + 1) * (z + 1) + 5) (m := 2147483647) (by decide)
    generalize Int.fmod (y * 48271 + 6607 * (z + 1) * (z + 1) + 5) 2147483647 = y' at u1 u2 ⊢
    repeat wtm_at "w"
    refine g_sub ?_
    repeat wtm_at "w"
    refine g_set3 (j := 1) e1 rfl ?_
    have e2 : upd H1 p (.lst ([V.int x, V.int y, V.int (z + 1)].set 1 (V.int y'))) p = some (.lst [V.int x, V.int y', V.int (z + 1)]) := upd_same
    have k2 : Kp1 H (upd H1 p (.lst ([V.int x, V.int y, V.int (z + 1)].set 1 (V.int y')))) p := k1.trans Kp1.set
    generalize upd H1 p (.lst ([V.int x, V.int y, V.int (z + 1)].set 1 (V.int y'))) = H2 at e2 k2 ⊢
    repeat wtm_at "w"
    refine g_ixL (v := .int y') (SqL.of e2) rfl ?_
    repeat wtm_at "w"
    refine g_I ⟨by decide, by decide⟩ ?_
    obtain ⟨v1, v2⟩ := fdiv16 u1 u2
    generalize Int.fdiv y' 16 = y2 at v1 v2 ⊢
    repeat wtm_at "w"
    refine g_I ⟨by decide, by decide, by omega⟩ ?_
    repeat wtm_at "w"
    refine g_I (by decide) ?_
    repeat wtm_at "w"
    refine g_I (by omega) ?_
    obtain ⟨r, er, hr'⟩ := fmod_nat (x := Int.fmod (y2 ^ Int.toNat 3) 2147483587) hm0
    rw [er]
    exact q _ r hr' k2 ⟨x, y', z + 1, e2, by omega, by omega⟩
def sp_law_pick : Sp := fun vs H Q _ => ∃ (p l : Addr) (xs : List Str) (c : Nat), vs = [.ref p, .ref l] ∧ H l = some (.lst (xs.map V.str)) ∧ 0 < xs.length ∧ xs.length ≤ 1000 ∧ BagAt H p c ∧ c ≤ 1000000 ∧
  ∀ H' (x : Str), x ∈ xs → Kp1 H H' p → BagAt H' p (c + 1) → Q (.str x) H'
theorem ok_law_pick (T : Top K mg) (O_law_take : Ok P w K mg base 1 "_law_take" p_law_take sp_law_take) : Ok P w K mg base 2 "_law_pick" p_law_pick sp_law_pick := by
  refine mkOk T.d_law_pick T.g_law_pick sc_law_pick b_law_pick (fun vs H Q E h => ?_) (fun f cdv A outer s H vs Q E hr h => ?_)
  · obtain ⟨p, l, xs, c, rfl, _⟩ := h
    rfl
  obtain ⟨p, l, xs, c, rfl, e, h0, hl, hB, hc, q⟩ := h
  refine ⟨_, (pss_one (ps_ret (pe_ix ix_list (pv 1) (pc O_law_take hr rfl (pa_cons (pv 0) (pa_cons (pe_callB cr_lnL rfl T.f_len PySem.boot_len (pa_cons (pv 1) pa_nil)) pa_nil))) (fun _ _ => rfl)))), ?_⟩
  try dsimp only [cxOf]
  refine g_start (σ := [some _, some _]) rfl ?_
  repeat wtm_at "w"
  refine g_lnL (SqL.of e) ?_
  rw [List.length_map]
  repeat wtm_at "w"
  refine ⟨p, xs.length, c, rfl, h0, by omega, hB, hc, fun H' r hr' k b => ?_⟩
  refine g_ixL (v := .str xs[r]) (SqL.of (k _ _ e (hB.ne e))) (atI_nat (by rw [List.getElem?_map, List.getElem?_eq_getElem hr']; rfl)) ?_
  exact q _ _ (List.getElem_mem hr') k b
theorem SqL.to {H H' : Hp} {a : Addr} {xs : List V} (h : SqL K H a xs) (k : Same H H') : SqL K H' a xs := by
  rcases h with h | h
  · refine .inl ?_
    rcases h with h | ⟨o, h⟩
    · exact .inl (k _ _ h)
    · exact .inr ⟨o, k _ _ h⟩
  · exact .inr h
def sp_law_bag : Sp := fun vs H Q _ => ∃ (a : Addr) (xs : List Int) (k : Nat), vs = [.ref a, .int (k : Int)] ∧ SqL K H a (xs.map V.int) ∧ k ≤ 8 ∧ ∀ H' B, Same H H' → H B = none → BagAt H' B 0 → Q (.ref B) H'
theorem ok_law_bag (T : Top K mg) : Ok P w K mg base 1 "_law_bag" p_law_bag (sp_law_bag (K := K)) := by
  refine mkOk T.d_law_bag T.g_law_bag sc_law_bag b_law_bag (fun vs H Q E h => ?_) (fun f cdv A outer s H vs Q E hr h => ?_)
  · obtain ⟨a, xs, k, rfl, _⟩ := h
    rfl
  obtain ⟨a, xs, k, rfl, e, hk, q⟩ := h
  refine ⟨_, (pss_cons (ps_set (i := 2) sc_law_bag.nd rfl (Or.inl rfl) (pe_ifExp (pt_cmpR op_lt (pv 1) (pe_callB cr_lnL rfl T.f_len PySem.boot_len (pa_cons (pv 0) pa_nil)) (nomark _)) (pe_ix ix_list (pv 0) (pv 1) (fun _ _ => rfl)) pe_int)) (pss_cons (ps_set (i := 3) sc_law_bag.nd rfl (Or.inl rfl) (pe_ifExp (pt_cmpR op_ge (pe_callB call_abs rfl T.f_abs (by decide +kernel) (pa_cons (pv 2) pa_nil)) (pe_op op_pow pe_int pe_int) (nomark _)) (pe_callB call_abs rfl T.f_abs (by decide +kernel) (pa_cons (pv 2) pa_nil)) pe_int)) (pss_one (ps_ret (pe_lstN (pa_cons (pv 3) (pa_cons (pe_op op_modN (pe_op op_pow (pe_op op_add (pe_op op_add (pe_op op_modN (pv 2) pe_int) (pe_op op_mul pe_int (pv 1))) pe_int) pe_int) pe_int) (pa_cons pe_int pa_nil)))))))), ?_⟩
  try dsimp only [cxOf]
  refine g_start (σ := [some _, some _, none, none]) rfl ?_
  -- from the cell on
  have out : ∀ cell : Int, (tSeq (tAsg (tIf (tTest (tOp (rI0 fun i j => .bl (decide (i ≥ j))) (tCB (fun xs H Q => ∃ i, xs = [V.int i] ∧ Q (V.int (if i < 0 then -i else i)) H) (tCons (tVar 2) tNil)) (tOp (rI CPow fun i j => .int (i ^ j.toNat)) (tC (.int 10)) (tC (.int 18)))))
      (tCB (fun xs H Q => ∃ i, xs = [V.int i] ∧ Q (V.int (if i < 0 then -i else i)) H) (tCons (tVar 2) tNil)) (tC (.int 0))) (gName 3))
      (tRet (tLstN (tCons (tVar 3) (tCons (tOp (rI (fun _ j => j ≠ 0) fun i j => .int (i.fmod j)) (tOp (rI CPow fun i j => .int (i ^ j.toNat)) (tOp (rI0 fun i j => .int (i + j)) (tOp (rI0 fun i j => .int (i + j)) (tOp (rI (fun _ j => j ≠ 0) fun i j => .int (i.fmod j)) (tVar 2) (tC (.int 2147483647))) (tOp (rI CMul fun i j => .int (i * j)) (tC (.int 7121)) (tVar 1))) (tC (.int 11))) (tC (.int 3))) (tC (.int 2147483629))) (tCons (tC (.int 0)) tNil)))))) { nx := fun _ H' => Q .non H', rt := Q } [some (.ref a), some (.int (k : Int)), some (.int cell), none] H := by
    intro cell
    have fin : ∀ d : Int, (tRet (tLstN (tCons (tVar 3) (tCons (tOp (rI (fun _ j => j ≠ 0) fun i j => .int (i.fmod j)) (tOp (rI CPow fun i j => .int (i ^ j.toNat)) (tOp (rI0 fun i j => .int (i + j)) (tOp (rI0 fun i j => .int (i + j)) (tOp (rI (fun _ j => j ≠ 0) fun i j => .int (i.fmod j)) (tVar 2) (tC (.int 2147483647))) (tOp (rI CMul fun i j => .int (i * j)) (tC (.int 7121)) (tVar 1))) (tC (.int 11))) (tC (.int 3))) (tC (.int 2147483629))) (tCons (tC (.int 0)) tNil)))))
        { nx := fun _ H' => Q .non H', rt := Q } [some (.ref a), some (.int (k : Int)), some (.int cell), some (.int d)] H := by
      intro d
      repeat wtm_at "w"
      refine g_I (by decide) ?_
      obtain ⟨u1, u2⟩ := fmod_lt (x := cell) (m := 2147483647) (by decide)
      generalize Int.fmod cell 2147483647 = y at u1 u2 ⊢
      repeat wtm_at "w"
      refine g_I (.inl ⟨by decide, by decide⟩) ?_
      repeat wtm_at "w"
      refine g_I ⟨by decide, by decide, by omega⟩ ?_
      repeat wtm_at "w"
      refine g_I (by decide) ?_
      repeat wtm_at "w"
      exact ⟨smk rfl, fun B H' s n e => q H' B s n ⟨_, _, 0, e, by decide, by decide⟩⟩
    repeat wtm_at "w"
    refine ⟨_, rfl, ?_⟩
    repeat wtm_at "w"
    refine g_I ⟨by decide, by decide, by decide⟩ ?_
    repeat wtm_at "w"
    refine g_if2 (fun _ => ?_) (fun _ => ?_)
    · repeat wtm_at "w"
      refine ⟨_, rfl, ?_⟩
      exact fin _
    · refine g_c ?_
      exact fin _
  repeat wtm_at "w"
  refine g_lnL e ?_
  rw [List.length_map]
  repeat wtm_at "w"
  refine g_if2 (fun hb => ?_) (fun hb => ?_)
  · have hlt : k < xs.length := by
      have := of_decide_eq_true hb
      omega
    repeat wtm_at "w"
    refine g_ixL (v := .int xs[k]) e (atI_nat (by rw [List.getElem?_map, List.getElem?_eq_getElem hlt]; rfl)) ?_
    exact out _
  · refine g_c ?_
    exact out _
end
section
variable {K : PySem.W.Frag} {P : Program} {w : World} {base : Heap} {mg : Str → Option Value}
local macro_rules | `(tactic| wtm_at "w") => `(tactic| first | (with_reducible refine g_tupN ?_) | (with_reducible refine g_lstN ?_) | wtm_at "g")
/-! ### drawn texts: how long, how many draws -/
/-- a text of at most m characters, n draws later -/
def PostT (H : Hp) (p : Addr) (c n m : Nat) (Q : VK) : Prop := ∀ H' (z : Str), Kp1 H H' p → BagAt H' p (c + n) → z.length ≤ m → Q (.str z) H'
def m_names : List Str := ["a", "if", "x1", "_", "rb", "f", "B", "bar", "e5", "J2", "aVeryLongName"]
def m_numbers : List Str := ["0", "00_0", "1_000", "0xF_f", "0b_1", "0o17", ".5", "1.", "1.5e-3", "2j", "1E5", "0777.5", "9_9.e+1J"]
def m_strings : List Str := ["''", "'a'", "\"b\\\"c\"", "r'\\''", "b\"\"", "'''x\ny'''", "\"\"\"a\"b\"\"\"", "u'x'", "'a\\\nb'", "Rb'#{'"]
def m_signs : List Str := ["+", "**", "//=", "->", ":=", "...", "<<", "!=", ",", ":", ";", "=", ".", "@", "~", "-", "<", ">=", "*"]
theorem all_len {xs : List Str} {m : Nat} (h : xs.all (fun x => Nat.ble x.length m) = true) : ∀ x ∈ xs, x.length ≤ m := fun x hx => Nat.le_of_ble_eq_true (List.all_eq_true.mp h x hx)
/-- a list of short texts lies there -/
def MenuAt (H : Hp) (m : Nat) (l : Addr) : Prop := ∃ xs : List Str, H l = some (.lst (xs.map V.str)) ∧ 0 < xs.length ∧ xs.length ≤ 1000 ∧ ∀ x ∈ xs, x.length ≤ m
theorem MenuAt.kp {H H' : Hp} {m c : Nat} {l p : Addr} (h : MenuAt H m l) (k : Kp1 H H' p) (b : BagAt H p c) : MenuAt H' m l := by
  obtain ⟨xs, e, h1, h2, h3⟩ := h
  exact ⟨xs, k _ _ e (b.ne e), h1, h2, h3⟩
theorem MenuAt.same {H H' : Hp} {m : Nat} {l : Addr} (h : MenuAt H m l) (k : Same H H') : MenuAt H' m l := by
  obtain ⟨xs, e, h1, h2, h3⟩ := h
  exact ⟨xs, k _ _ e, h1, h2, h3⟩
/-- a draw from a list of short texts -/
def sp_pickM : Sp := fun vs H Q _ => ∃ (p l : Addr) (m c : Nat), vs = [.ref p, .ref l] ∧ MenuAt H m l ∧ BagAt H p c ∧ c ≤ 1000000 ∧ PostT H p c 1 m Q
theorem pickM {k : Nat} (O : Ok P w K mg base k "_law_pick" p_law_pick sp_law_pick) : Ok P w K mg base k "_law_pick" p_law_pick sp_pickM := by
  refine O.imp fun vs H Q E h => ?_
  obtain ⟨p, l, m, c, rfl, ⟨xs, e, h1, h2, h3⟩, hB, hc, q⟩ := h
  exact ⟨p, l, xs, c, rfl, e, h1, h2, hB, hc, fun H' x hx k b => q H' x k b (h3 x hx)⟩
def sp_law_plain : Sp := fun vs H Q _ => ∃ (p : Addr) (c : Nat), vs = [.ref p] ∧ BagAt H p c ∧ c ≤ 990000 ∧ PostT H p c 2 13 Q
theorem ok_law_plain (T : Top K mg) (O_law_take : Ok P w K mg base 1 "_law_take" p_law_take sp_law_take) (O_law_pick : Ok P w K mg base 2 "_law_pick" p_law_pick sp_pickM) : Ok P w K mg base 3 "_law_plain" p_law_plain sp_law_plain := by
  refine mkOk T.d_law_plain T.g_law_plain sc_law_plain b_law_plain (fun vs H Q E h => ?_) (fun f cdv A outer s H vs Q E hr h => ?_)
  · obtain ⟨p, c, rfl, _⟩ := h
    rfl
  obtain ⟨p, c, rfl, hB, hc, q⟩ := h
  refine ⟨_, (pss_cons (ps_set (i := 1) sc_law_plain.nd rfl (Or.inl rfl) (pe_lstN (pa_cons pe_str (pa_cons pe_str (pa_cons pe_str (pa_cons pe_str (pa_cons pe_str (pa_cons pe_str (pa_cons pe_str (pa_cons pe_str (pa_cons pe_str (pa_cons pe_str (pa_cons pe_str pa_nil))))))))))))) (pss_cons (ps_set (i := 2) sc_law_plain.nd rfl (Or.inl rfl) (pe_lstN (pa_cons pe_str (pa_cons pe_str (pa_cons pe_str (pa_cons pe_str (pa_cons pe_str (pa_cons pe_str (pa_cons pe_str (pa_cons pe_str (pa_cons pe_str (pa_cons pe_str (pa_cons pe_str (pa_cons pe_str (pa_cons pe_str pa_nil))))))))))))))) (pss_cons (ps_set (i := 3) sc_law_plain.nd rfl (Or.inl rfl) (pe_lstN (pa_cons pe_str (pa_cons pe_str (pa_cons pe_str (pa_cons pe_str (pa_cons pe_str (pa_cons pe_str (pa_cons pe_str (pa_cons pe_str (pa_cons pe_str (pa_cons pe_str pa_nil)))))))))))) (pss_cons (ps_set (i := 4) sc_law_plain.nd rfl (Or.inl rfl) (pe_lstN (pa_cons pe_str (pa_cons pe_str (pa_cons pe_str (pa_cons pe_str (pa_cons pe_str (pa_cons pe_str (pa_cons pe_str (pa_cons pe_str (pa_cons pe_str (pa_cons pe_str (pa_cons pe_str (pa_cons pe_str (pa_cons pe_str (pa_cons pe_str (pa_cons pe_str (pa_cons pe_str (pa_cons pe_str (pa_cons pe_str (pa_cons pe_str pa_nil))))))))))))))))))))) (pss_one (ps_ret (pc O_law_pick hr rfl (pa_cons (pv 0) (pa_cons (pe_ix ix_list (pe_lstN (pa_cons (pv 1) (pa_cons (pv 1) (pa_cons (pv 2) (pa_cons (pv 3) (pa_cons (pv 4) (pa_cons (pv 4) pa_nil))))))) (pc O_law_take hr rfl (pa_cons (pv 0) (pa_cons pe_int pa_nil))) (fun _ _ => rfl)) pa_nil))))))))), ?_⟩
  try dsimp only [cxOf]
  refine g_start (σ := [some _, none, none, none, none]) rfl ?_
  repeat wtm_at "w"
  refine ⟨smk rfl, fun L1 H1 s1 _ e1 => ?_⟩
  repeat wtm_at "w"
  refine ⟨smk rfl, fun L2 H2 s2 _ e2 => ?_⟩
  repeat wtm_at "w"
  refine ⟨smk rfl, fun L3 H3 s3 _ e3 => ?_⟩
  repeat wtm_at "w"
  refine ⟨smk rfl, fun L4 H4 s4 _ e4 => ?_⟩
  repeat wtm_at "w"
  refine ⟨smk rfl, fun L5 H5 s5 _ e5 => ?_⟩
  have m1 : MenuAt H5 13 L1 := ⟨m_names, s5 _ _ (s4 _ _ (s3 _ _ (s2 _ _ e1))), by decide, by decide, all_len (by decide +kernel)⟩
  have m2 : MenuAt H5 13 L2 := ⟨m_numbers, s5 _ _ (s4 _ _ (s3 _ _ e2)), by decide, by decide, all_len (by decide +kernel)⟩
  have m3 : MenuAt H5 13 L3 := ⟨m_strings, s5 _ _ (s4 _ _ e3), by decide, by decide, all_len (by decide +kernel)⟩
  have m4 : MenuAt H5 13 L4 := ⟨m_signs, s5 _ _ e4, by decide, by decide, all_len (by decide +kernel)⟩
  have mm : ∀ l ∈ [L1, L1, L2, L3, L4, L4], MenuAt H5 13 l := by
    intro l hl
    simp only [List.mem_cons, List.not_mem_nil, or_false] at hl
    rcases hl with rfl | rfl | rfl | rfl | rfl | rfl <;> assumption
  have e5' : H5 L5 = some (.lst ([L1, L1, L2, L3, L4, L4].map V.ref)) := e5
  have s05 : Same H H5 := (((s1.trans s2).trans s3).trans s4).trans s5
  have B5 : BagAt H5 p c := hB.same s05
  have n5 : L5 ≠ p := by
    obtain ⟨x, y, z, e', _⟩ := B5
    refine ne_of e5 e' fun q => ?_
    injection q with q
    injection q with q _
    cases q
  have l6 : [L1, L1, L2, L3, L4, L4].length = 6 := rfl
  generalize [L1, L1, L2, L3, L4, L4] = ls at mm e5' l6
  repeat wtm_at "w"
  refine ⟨p, 6, c, rfl, by decide, by decide, B5, by omega, fun H6 r hr' k6 b6 => ?_⟩
  have hr6 : r < ls.length := by omega
  refine g_ixL (v := .ref ls[r]) (SqL.of (k6 _ _ e5' n5)) (atI_nat (by rw [List.getElem?_map, List.getElem?_eq_getElem hr6]; rfl)) ?_
  repeat wtm_at "w"
  refine ⟨p, ls[r], 13, c + 1, rfl, (mm _ (List.getElem_mem hr6)).kp k6 B5, b6, by omega, fun H7 z k7 b7 hz => ?_⟩
  exact q H7 z (((Kp1.same s05).trans k6).trans k7) b7 hz
/-! ### an atom, a row, a formatted string -/
def sp_law_atom (d : Int) (n m M : Nat) : Sp := fun vs H Q _ => ∃ (p : Addr) (c : Nat), vs = [.ref p, .int d] ∧ BagAt H p c ∧ c ≤ M ∧ PostT H p c n m Q
def sp_law_row (d : Int) (n m M : Nat) : Sp := fun vs H Q _ => ∃ (p : Addr) (b : Bool) (c : Nat), vs = [.ref p, .int d, .bl b] ∧ BagAt H p c ∧ c ≤ M ∧ PostT H p c n m Q
theorem PostT.after {H H' : Hp} {p : Addr} {c n m c' n' m' : Nat} {Q : VK} (q : PostT H p c n m Q) (k : Kp1 H H' p) (hc : c' + n' ≤ c + n) (hm : m' ≤ m) : PostT H' p c' n' m' Q :=
  fun H2 z k2 b2 hz => q H2 z (k.trans k2) (b2.more hc) (Nat.le_trans hz hm)
/-- a def that the call never reaches -/
def spNo : Sp := fun _ _ _ _ => False
/-- two characters -/
theorem two_chars {x : Str} (h : x ∈ ([("()" : Str), "[]", "{}"] : List Str)) : ∃ a b, tl x = [a, b] ∧ x.length = 2 := by
  simp only [List.mem_cons, List.not_mem_nil, or_false] at h
  rcases h with rfl | rfl | rfl
  · exact ⟨40, 41, by decide +kernel, by decide +kernel⟩
  · exact ⟨91, 93, by decide +kernel, by decide +kernel⟩
  · exact ⟨123, 125, by decide +kernel, by decide +kernel⟩
theorem g_ix2 {z : Str} {i : Int} {c : Nat} {H : Hp} {Q : VK} (hz : z.length ≤ sizeLine) (h : atI (tl z) i = some c) (q : Q (.str ⟨#[c]⟩) H) : rIxS (.str z) (.int i) H Q := ⟨z, i, c, rfl, rfl, hz, h, q⟩
theorem ok_law_atom (T : Top K mg) {k : Nat} {d d1 : Int} {n m n1 m1 n2 m2 M M1 : Nat} (hd : d - 1 = d1) (O_law_take : Ok P w K mg base k "_law_take" p_law_take sp_law_take) (O_law_pick : Ok P w K mg base k "_law_pick" p_law_pick sp_law_pick)
    (O_law_plain : Ok P w K mg base k "_law_plain" p_law_plain sp_law_plain) {spR spF : Sp} (O_law_row : Ok P w K mg base k "_law_row" p_law_row spR) (O_law_formatted : Ok P w K mg base k "_law_formatted" p_law_formatted spF)
    (hR : d ≠ 0 → ∀ vs H Q E, sp_law_row d1 n1 m1 M1 vs H Q E → spR vs H Q E) (hF : d ≠ 0 → ∀ vs H Q E, sp_law_atom d1 n2 m2 M1 vs H Q E → spF vs H Q E)
    (hM : M + 2 ≤ M1) (hM1 : M1 ≤ 990000) (hn0 : 3 ≤ n) (hm0 : 13 ≤ m) (hm3 : m ≤ 10000) (hn1 : d ≠ 0 → n1 + 2 ≤ n) (hn2 : d ≠ 0 → n2 + 1 ≤ n) (hm1 : d ≠ 0 → m1 + 2 ≤ m) (hm2 : d ≠ 0 → m2 ≤ m) : Ok P w K mg base (k + 1) "_law_atom" p_law_atom (sp_law_atom d n m M) := by
  refine mkOk T.d_law_atom T.g_law_atom sc_law_atom b_law_atom (fun vs H Q E h => ?_) (fun f cdv A outer s H vs Q E hr h => ?_)
  · obtain ⟨p, c, rfl, _⟩ := h
    rfl
  obtain ⟨p, c, rfl, hB, hc, q⟩ := h
  refine ⟨_, (pss_cons (ps_set (i := 2) sc_law_atom.nd rfl (Or.inl rfl) (pc O_law_take hr rfl (pa_cons (pv 0) (pa_cons pe_int pa_nil)) (hk := Nat.le_refl _))) (pss_cons (ps_if (PW.pt (pw_or (pt_cmpR op_eq (pv 1) pe_int (nomark _)) (pw_or1 (pt_cmpR op_lt (pv 2) pe_int (nomark _))))) (pss_one (ps_ret (pc O_law_plain hr rfl (pa_cons (pv 0) pa_nil) (hk := Nat.le_refl _)))) pss_nil) (pss_cons (ps_if (pt_cmpR op_lt (pv 2) pe_int (nomark _)) (pss_cons (ps_set (i := 3) sc_law_atom.nd rfl (Or.inl rfl) (pc O_law_pick hr rfl (pa_cons (pv 0) (pa_cons (pe_lstN (pa_cons pe_str (pa_cons pe_str (pa_cons pe_str pa_nil)))) pa_nil)) (hk := Nat.le_refl _))) (pss_one (ps_ret (pe_op op_addS (pe_op op_addS (pe_ix ix_str (pv 3) pe_int (fun _ _ => rfl)) (pc O_law_row hr rfl (pa_cons (pv 0) (pa_cons (pe_op op_sub (pv 1) pe_int) (pa_cons pe_bl pa_nil))) (hk := Nat.le_refl _))) (pe_ix ix_str (pv 3) pe_int (fun _ _ => rfl)))))) pss_nil) (pss_one (ps_ret (pc O_law_formatted hr rfl (pa_cons (pv 0) (pa_cons (pe_op op_sub (pv 1) pe_int) pa_nil)) (hk := Nat.le_refl _))))))), ?_⟩
  try dsimp only [cxOf]
  refine g_start (σ := [some _, some _, none, none]) rfl ?_
  repeat wtm_at "w"
  refine ⟨p, 8, c, rfl, by decide, by decide, hB, by omega, fun H1 r hr' k1 b1 => ?_⟩
  -- the plain one
  have plain : PostT H1 p (c + 1) 2 13 Q := q.after k1 (by omega) hm0
  repeat wtm_at "w"
  refine g_if2 (fun h0 => ?_) (fun h0 => ?_)
  · refine g_ifT rfl ?_
    repeat wtm_at "w"
    exact ⟨p, c + 1, rfl, b1, by omega, plain⟩
  have hd0 : d ≠ 0 := fun e => by
    rw [e] at h0
    exact absurd h0 (by decide)
  repeat wtm_at "w"
  refine g_if2 (fun h5 => ?_) (fun h5 => ?_)
  · repeat wtm_at "w"
    exact ⟨p, c + 1, rfl, b1, by omega, plain⟩
  repeat wtm_at "w"
  refine g_if2 (fun h7 => ?_) (fun h7 => ?_)
  · repeat wtm_at "w"
    refine ⟨smk rfl, fun L H2 s2 _ e2 => ?_⟩
    have b2 := b1.same s2
    refine ⟨p, L, [("()" : Str), "[]", "{}"], c + 1, rfl, e2, by decide, by decide, b2, by omega, fun H3 x hx k3 b3 => ?_⟩
    obtain ⟨a, b, ex, lx⟩ := two_chars hx
    have k13 : Kp1 H1 H3 p := (Kp1.same s2).trans k3
    repeat wtm_at "w"
    refine g_ix2 (c := a) (szL (by omega)) (by rw [ex]; rfl) ?_
    repeat wtm_at "w"
    rw [hd]
    refine hR hd0 _ _ _ _ ⟨p, true, c + 2, rfl, b3, by omega, fun H4 z k4 b4 hz => ?_⟩
    have hm1' := hm1 hd0
    have hn1' := hn1 hd0
    have la : (⟨#[a]⟩ : Str).length = 1 := rfl
    have lb : (⟨#[b]⟩ : Str).length = 1 := rfl
    repeat wtm_at "w"
    refine g_addS (szL (by rw [la]; omega)) ?_
    repeat wtm_at "w"
    refine g_ix2 (c := b) (szL (by omega)) (by rw [ex]; rfl) ?_
    have l2 : ((⟨#[a]⟩ : Str) ++ z).length = 1 + z.length := by rw [lenA, la]
    refine g_addS (szL (by rw [lb]; omega)) ?_
    exact q H4 _ ((k1.trans k13).trans k4) (b4.more (by omega)) (by rw [lenA, l2, lb]; omega)
  · repeat wtm_at "w"
    rw [hd]
    have hm2' := hm2 hd0
    have hn2' := hn2 hd0
    exact hF hd0 _ _ _ _ ⟨p, c + 1, rfl, b1, by omega, q.after k1 (by omega) hm2'⟩
end
section
variable {K : PySem.W.Frag} {P : Program} {w : World} {base : Heap} {mg : Str → Option Value}
local macro_rules | `(tactic| wtm_at "w") => `(tactic| first | (with_reducible refine g_tupN ?_) | (with_reducible refine g_lstN ?_) | wtm_at "g")
/-! ### a loop over a range -/
def RunF (J : It) (g : TG) (tb : TS) (D : Ends) (σ : L2.St) (H : Hp) : Prop := ∃ W : Nat → Nat → L2.St → Hp → Prop, (∃ m, W 0 m σ H) ∧ ∀ i m σ H, W i m σ H →
  (J.stop i H ∧ D.nx σ H) ∨ (J.go i H ∧ ∃ N : L2.St → Hp → Prop, (∀ σ' H', N σ' H' → ∃ m', m' < m ∧ W (i + 1) m' σ' H') ∧ ∀ x H', J.yld i H x H' → g x σ H' fun σ2 H2 => tb { D with nx := N, ct := N, bk := D.nx } σ2 H2)
theorem g_forR {ta : TA} {g : TG} {tb : TS} {D : Ends} {σ : L2.St} {H : Hp} (q : ta σ H fun vs H1 => ∃ j : Int, vs = [.int j] ∧ -(2 ^ 62) ≤ j ∧ j < 2 ^ 62 ∧ RunF (Itr 0 j.toNat) g tb D σ H1) : tFor (iRng1 ta) g tb D σ H := q
theorem g_rng {n : Nat} {g : TG} {tb : TS} {D : Ends} {σ : L2.St} {H : Hp} (hn : n ≤ 100000) (q : RunF (Itr 0 n) g tb D σ H) : ∃ j : Int, [V.int (n : Int)] = [V.int j] ∧ -(2 ^ 62) ≤ j ∧ j < 2 ^ 62 ∧ RunF (Itr 0 j.toNat) g tb D σ H :=
  ⟨n, rfl, by omega, by omega, q⟩
theorem runF {n : Nat} {g : TG} {tb : TS} {D : Ends} {σ : L2.St} {H : Hp} (Pv : Nat → L2.St → Hp → Prop) (h0 : Pv 0 σ H)
    (hs : ∀ i σ H', i < n → Pv i σ H' → g (.int (0 + (i : Int))) σ H' fun σ2 H2 => tb { D with nx := Pv (i + 1), ct := Pv (i + 1), bk := D.nx } σ2 H2) (hd : ∀ σ H', Pv n σ H' → D.nx σ H') : RunF (Itr 0 n) g tb D σ H :=
  for_it (walk_range (lo := 0) (n := n)) Pv h0 (fun _ _ _ _ _ => trivial) (fun i x σ H1 H2 hi pv y => by
    obtain ⟨rfl, rfl⟩ := y
    exact hs i σ _ hi pv) hd
/-! ### a row -/
theorem ok_law_row (T : Top K mg) {k : Nat} {d : Int} {n m n1 m1 M M1 : Nat} (O_law_take : Ok P w K mg base k "_law_take" p_law_take sp_law_take) (O_law_pick : Ok P w K mg base k "_law_pick" p_law_pick sp_pickM)
    (O_law_atom : Ok P w K mg base k "_law_atom" p_law_atom (sp_law_atom d n1 m1 M1))
    (hM : M + (5 * n1 + 5) ≤ M1) (hM1 : M1 ≤ 990000) (hm : 5 * m1 + 24 ≤ m) (hm3 : m ≤ 10000) (hn1 : 5 * n1 + 5 ≤ n) : Ok P w K mg base (k + 1) "_law_row" p_law_row (sp_law_row d n m M) := by
  refine mkOk T.d_law_row T.g_law_row sc_law_row b_law_row (fun vs H Q E h => ?_) (fun f cdv A outer s H vs Q E hr h => ?_)
  · obtain ⟨p, b, c, rfl, _⟩ := h
    rfl
  obtain ⟨p, b, c, rfl, hB, hc, q⟩ := h
  refine ⟨_, (pss_cons (ps_set (i := 3) sc_law_row.nd rfl (Or.inl rfl) (pe_op op_cat (pe_lstN (pa_cons pe_str (pa_cons pe_str (pa_cons pe_str (pa_cons pe_str (pa_cons pe_str (pa_cons pe_str pa_nil))))))) (pe_op op_rep (pe_lstN (pa_cons pe_str (pa_cons pe_str (pa_cons pe_str pa_nil)))) (pe_callTy call_int1 rfl T.f_int (by decide +kernel) (pa_cons (pv 2) pa_nil))))) (pss_cons (ps_set (i := 4) sc_law_row.nd rfl (Or.inl rfl) (pc O_law_atom hr rfl (pa_cons (pv 0) (pa_cons (pv 1) pa_nil)) (hk := Nat.le_refl _))) (pss_cons (ps_for PassesOwn.never rfl (pi_range1 rfl T.f_range (pa_cons (pc O_law_take hr rfl (pa_cons (pv 0) (pa_cons pe_int pa_nil)) (hk := Nat.le_refl _)) pa_nil)) (pg_name (i := 5) sc_law_row.nd rfl (Or.inl rfl)) (pss_one (ps_set (i := 4) sc_law_row.nd rfl (Or.inl rfl) (pe_op op_addS (pe_op op_addS (pv 4) (pc O_law_pick hr rfl (pa_cons (pv 0) (pa_cons (pv 3) pa_nil)) (hk := Nat.le_refl _))) (pc O_law_atom hr rfl (pa_cons (pv 0) (pa_cons (pv 1) pa_nil)) (hk := Nat.le_refl _)))))) (pss_one (ps_ret (pv 4)))))), ?_⟩
  try dsimp only [cxOf]
  refine g_start (σ := [some _, some _, some _, none, none, none]) rfl ?_
  repeat wtm_at "w"
  refine ⟨smk rfl, fun L1 H1 s1 _ e1 => ?_⟩
  repeat wtm_at "w"
  refine ⟨smk rfl, fun L2 H2 s2 _ e2 => ?_⟩
  repeat wtm_at "w"
  refine .inr ⟨b, rfl, ?_⟩
  refine g_repL e2 (by split <;> decide) (by split <;> decide) (smk rfl) fun L3 H3 s3 e3 => ?_
  obtain ⟨gs, eg, hgl, hg⟩ : ∃ gs : List Str, (List.replicate (if b = true then (1 : Int) else 0).toNat [V.str "\n", V.str " # in\n", V.str "\n\n  "]).flatten = gs.map V.str ∧ gs.length ≤ 3 ∧ ∀ x ∈ gs, x.length ≤ 6 := by
    cases b with
    | true => exact ⟨[("\n" : Str), " # in\n", "\n\n  "], rfl, by decide, all_len (by decide +kernel)⟩
    | false => exact ⟨[], rfl, by decide, fun x hx => by cases hx⟩
  have e3' : H3 L3 = some (.lst (gs.map V.str)) := by
    rw [← eg]
    exact e3
  have s13 : Same H1 H3 := s2.trans s3
  refine g_catL (s13 _ _ e1) e3' (by rw [List.length_map]; show 6 + _ ≤ _; omega) fun L4 H4 s4 e4 => ?_
  have s04 : Same H H4 := (s1.trans s13).trans s4
  have hg0 : ∀ x ∈ ([(" " : Str), " ", "", "  ", "\t", " \\\n "] : List Str), x.length ≤ 6 := all_len (by decide +kernel)
  have mL : MenuAt H4 6 L4 := by
    refine ⟨[(" " : Str), " ", "", "  ", "\t", " \\\n "] ++ gs, ?_, ?_, ?_, ?_⟩
    · rw [List.map_append]
      exact e4
    · rw [List.length_append]
      show 0 < 6 + _
      omega
    · rw [List.length_append]
      show 6 + _ ≤ 1000
      omega
    · intro x hx
      exact (List.mem_append.mp hx).elim (hg0 x) (hg x)
  have B4 := hB.same s04
  repeat wtm_at "w"
  refine ⟨p, c, rfl, B4, by omega, fun H5 z k5 b5 hz => ?_⟩
  have m5 := mL.kp k5 B4
  have k05 : Kp1 H H5 p := (Kp1.same s04).trans k5
  repeat wtm_at "w"
  refine g_forR ?_
  repeat wtm_at "w"
  refine ⟨p, 5, c + n1, rfl, by decide, by decide, b5, by omega, fun H6 r hr' k6 b6 => ?_⟩
  refine g_rng (by omega) ?_
  refine runF (fun i σ H' => ∃ (z : Str) (t : Option V), σ = [some (.ref p), some (.int d), some (.bl b), some (.ref L4), some (.str z), t] ∧ Kp1 H H' p ∧ MenuAt H' 6 L4 ∧ BagAt H' p (c + n1 + 1 + i * (n1 + 1)) ∧ z.length ≤ m1 + i * (m1 + 6)) ?_ ?_ ?_
  · exact ⟨z, none, rfl, k05.trans k6, m5.kp k6 b5, b6.more (by omega), by omega⟩
  · rintro i σ H7 hi ⟨z, t, rfl, k7, m7, b7, hz7⟩
    have i4 : i ≤ 4 := by omega
    have i5 : i * (n1 + 1) ≤ 4 * (n1 + 1) := Nat.mul_le_mul_right _ i4
    have i6 : i * (m1 + 6) ≤ 4 * (m1 + 6) := Nat.mul_le_mul_right _ i4
    have i7 : (i + 1) * (n1 + 1) = i * (n1 + 1) + (n1 + 1) := Nat.succ_mul _ _
    have i8 : (i + 1) * (m1 + 6) = i * (m1 + 6) + (m1 + 6) := Nat.succ_mul _ _
    have i9 : i * (n1 + 1) ≤ 3 * (n1 + 1) := Nat.mul_le_mul_right _ (by omega)
    repeat wtm_at "w"
    refine ⟨p, L4, 6, _, rfl, m7, b7, by omega, fun H8 x k8 b8 hx => ?_⟩
    refine g_addS (szL (by omega)) ?_
    have l1 : (z ++ x).length = z.length + x.length := lenA
    repeat wtm_at "w"
    refine ⟨p, _, rfl, b8, by omega, fun H9 y k9 b9 hy => ?_⟩
    refine g_addS (szL (by omega)) ?_
    repeat wtm_at "w"
    exact ⟨z ++ x ++ y, _, rfl, (k7.trans k8).trans k9, (m7.kp k8 b7).kp k9 b8, b9.more (by omega), by rw [lenA, l1]; omega⟩
  · rintro σ H7 ⟨z, t, rfl, k7, m7, b7, hz7⟩
    have i5 : r * (n1 + 1) ≤ 4 * (n1 + 1) := Nat.mul_le_mul_right _ (by omega)
    have i6 : r * (m1 + 6) ≤ 4 * (m1 + 6) := Nat.mul_le_mul_right _ (by omega)
    repeat wtm_at "w"
    exact q _ _ k7 (b7.more (by omega)) (by omega)
/-! ### a formatted string -/
theorem half {n : Nat} (h : n ≤ 3) : ∃ j : Nat, Int.fdiv (n : Int) 2 = (j : Int) ∧ j ≤ 1 := by
  rw [Int.fdiv_eq_ediv_of_nonneg (n : Int) (by decide)]
  exact ⟨n / 2, by omega, by omega⟩
theorem repS_len {z : Str} {j : Nat} (h : z.length = 1) : (repS z j).length = j := by
  rw [len_tl, tl_repS, List.length_flatten, List.map_replicate, List.sum_replicate_nat, ← len_tl, h, Nat.mul_one]
theorem ok_law_formatted (T : Top K mg) {k : Nat} {d : Int} {n m n1 m1 M M1 : Nat} (O_law_take : Ok P w K mg base k "_law_take" p_law_take sp_law_take) (O_law_pick : Ok P w K mg base k "_law_pick" p_law_pick sp_pickM)
    (O_law_atom : Ok P w K mg base k "_law_atom" p_law_atom (sp_law_atom d n1 m1 M1))
    (hM : M + (3 * n1 + 9) ≤ M1) (hM1 : M1 ≤ 990000) (hm : 3 * m1 + 36 ≤ m) (hm3 : m ≤ 10000) (hn1 : 3 * n1 + 9 ≤ n) : Ok P w K mg base (k + 1) "_law_formatted" p_law_formatted (sp_law_atom d n m M) := by
  refine mkOk T.d_law_formatted T.g_law_formatted sc_law_formatted b_law_formatted (fun vs H Q E h => ?_) (fun f cdv A outer s H vs Q E hr h => ?_)
  · obtain ⟨p, c, rfl, _⟩ := h
    rfl
  obtain ⟨p, c, rfl, hB, hc, q⟩ := h
  refine ⟨_, (pss_cons (ps_set (i := 2) sc_law_formatted.nd rfl (Or.inl rfl) (pc O_law_pick hr rfl (pa_cons (pv 0) (pa_cons (pe_lstN (pa_cons pe_str (pa_cons pe_str (pa_cons pe_str (pa_cons pe_str pa_nil))))) pa_nil)) (hk := Nat.le_refl _))) (pss_cons (ps_set (i := 3) sc_law_formatted.nd rfl (Or.inl rfl) (pe_op op_addS (pc O_law_pick hr rfl (pa_cons (pv 0) (pa_cons (pe_lstN (pa_cons pe_str (pa_cons pe_str (pa_cons pe_str (pa_cons pe_str pa_nil))))) pa_nil)) (hk := Nat.le_refl _)) (pv 2))) (pss_cons (ps_set (i := 4) sc_law_formatted.nd rfl (Or.inl rfl) (pe_lstN (pa_cons pe_str (pa_cons pe_str (pa_cons pe_str (pa_cons pe_str (pa_cons pe_str (pa_cons pe_str (pa_cons pe_str (pa_cons pe_str (pa_cons pe_str pa_nil))))))))))) (pss_cons (ps_set (i := 5) sc_law_formatted.nd rfl (Or.inl rfl) (pe_lstN (pa_cons pe_str (pa_cons pe_str (pa_cons pe_str (pa_cons pe_str (pa_cons pe_str (pa_cons pe_str (pa_cons pe_str (pa_cons (pe_op op_mulS pe_str (pe_op op_fdivN (pe_callB cr_lnS rfl T.f_len PySem.boot_len (pa_cons (pv 2) pa_nil)) pe_int)) (pa_cons (pe_op op_mulS pe_str (pe_op op_fdivN (pe_callB cr_lnS rfl T.f_len PySem.boot_len (pa_cons (pv 2) pa_nil)) pe_int)) pa_nil))))))))))) (pss_cons (ps_for PassesOwn.never rfl (pi_range1 rfl T.f_range (pa_cons (pc O_law_take hr rfl (pa_cons (pv 0) (pa_cons pe_int pa_nil)) (hk := Nat.le_refl _)) pa_nil)) (pg_name (i := 6) sc_law_formatted.nd rfl (Or.inl rfl)) (pss_cons (ps_set (i := 7) sc_law_formatted.nd rfl (Or.inl rfl) (pc O_law_take hr rfl (pa_cons (pv 0) (pa_cons pe_int pa_nil)) (hk := Nat.le_refl _))) (pss_one (ps_if (pt_cmpR op_lt (pv 7) pe_int (nomark _)) (pss_one (ps_set (i := 3) sc_law_formatted.nd rfl (Or.inl rfl) (pe_op op_addS (pv 3) (pc O_law_pick hr rfl (pa_cons (pv 0) (pa_cons (pv 5) pa_nil)) (hk := Nat.le_refl _))))) (pss_one (ps_set (i := 3) sc_law_formatted.nd rfl (Or.inl rfl) (pe_op op_addS (pe_op op_addS (pe_op op_addS (pe_op op_addS (pv 3) pe_str) (pc O_law_atom hr rfl (pa_cons (pv 0) (pa_cons (pv 1) pa_nil)) (hk := Nat.le_refl _))) (pc O_law_pick hr rfl (pa_cons (pv 0) (pa_cons (pv 4) pa_nil)) (hk := Nat.le_refl _))) pe_str))))))) (pss_one (ps_ret (pe_op op_addS (pv 3) (pv 2))))))))), ?_⟩
  try dsimp only [cxOf]
  refine g_start (σ := [some _, some _, none, none, none, none, none, none]) rfl ?_
  repeat wtm_at "w"
  refine ⟨smk rfl, fun L1 H1 s1 _ e1 => ?_⟩
  have b1 := hB.same s1
  refine ⟨p, L1, 3, c, rfl, ⟨[("'" : Str), "\"", "'''", "\"\"\""], e1, by decide, by decide, all_len (by decide +kernel)⟩, b1, by omega, fun H2 qu k2 b2 hqu => ?_⟩
  repeat wtm_at "w"
  refine ⟨smk rfl, fun L2 H3 s3 _ e3 => ?_⟩
  have b3 := b2.same s3
  refine ⟨p, L2, 2, c + 1, rfl, ⟨[("f" : Str), "F", "rf", "fR"], e3, by decide, by decide, all_len (by decide +kernel)⟩, b3, by omega, fun H4 fx k4 b4 hfx => ?_⟩
  repeat wtm_at "w"
  refine g_addS (szL (by omega)) ?_
  have l1 : (fx ++ qu).length = fx.length + qu.length := lenA
  repeat wtm_at "w"
  refine ⟨smk rfl, fun L3 H5 s5 _ e5 => ?_⟩
  obtain ⟨j, ej, hj⟩ := half hqu
  have la : ("'" : Str).length = 1 := by decide +kernel
  have lb : ("\n" : Str).length = 1 := by decide +kernel
  repeat wtm_at "w"
  refine g_I ⟨by decide, by decide⟩ ?_
  rw [ej]
  refine g_mulS (by omega) (by rw [la]; decide) ?_
  repeat wtm_at "w"
  refine g_I ⟨by decide, by decide⟩ ?_
  rw [ej]
  refine g_mulS (by omega) (by rw [lb]; decide) ?_
  repeat wtm_at "w"
  refine ⟨smk rfl, fun L4 H6 s6 _ e6 => ?_⟩
  have b6 := (b4.same s5).same s6
  have k06 : Kp1 H H6 p := ((((((Kp1.same s1).trans k2).trans (Kp1.same s3)).trans k4).trans (Kp1.same s5))).trans (Kp1.same s6)
  have mT : MenuAt H6 7 L3 := ⟨[("" : Str), "!r", ":>5", "=", ":{w}", "!s:^{n}", ":=1", " ", ":"], s6 _ _ e5, by decide, by decide, all_len (by decide +kernel)⟩
  have mP : MenuAt H6 7 L4 := by
    refine ⟨[("ab" : Str), "{{", "}}", "\\q", "#", " ", "\\\\"] ++ [repS "'" j, repS "\n" j], e6, by show 0 < 9; decide, by show 9 ≤ 1000; decide, ?_⟩
    intro x hx
    rcases List.mem_append.mp hx with inA | inB
    · exact all_len (m := 7) (by decide +kernel) x inA
    · simp only [List.mem_cons, List.not_mem_nil, or_false] at inB
      rcases inB with rfl | rfl
      · rw [repS_len la]
        omega
      · rw [repS_len lb]
        omega
  repeat wtm_at "w"
  refine g_forR ?_
  repeat wtm_at "w"
  refine ⟨p, 4, c + 2, rfl, by decide, by decide, b6, by omega, fun H7 r hr' k7 b7 => ?_⟩
  refine g_rng (by omega) ?_
  refine runF (fun i σ H' => ∃ (z : Str) (t u : Option V), σ = [some (.ref p), some (.int d), some (.str qu), some (.str z), some (.ref L3), some (.ref L4), t, u] ∧ Kp1 H H' p ∧ MenuAt H' 7 L3 ∧ MenuAt H' 7 L4 ∧
    BagAt H' p (c + 3 + i * (n1 + 2)) ∧ z.length ≤ 5 + i * (m1 + 9)) ?_ ?_ ?_
  · exact ⟨fx ++ qu, none, none, rfl, k06.trans k7, mT.kp k7 b6, mP.kp k7 b6, b7.more (by omega), by omega⟩
  · rintro i σ H8 hi ⟨z, t, u, rfl, k8, mt8, mp8, b8, hz8⟩
    have i5 : i * (n1 + 2) ≤ 2 * (n1 + 2) := Nat.mul_le_mul_right _ (by omega)
    have i6 : i * (m1 + 9) ≤ 2 * (m1 + 9) := Nat.mul_le_mul_right _ (by omega)
    have i7 : (i + 1) * (n1 + 2) = i * (n1 + 2) + (n1 + 2) := Nat.succ_mul _ _
    have i8 : (i + 1) * (m1 + 9) = i * (m1 + 9) + (m1 + 9) := Nat.succ_mul _ _
    repeat wtm_at "w"
    refine ⟨p, 6, _, rfl, by decide, by decide, b8, by omega, fun H9 way _ k9 b9 => ?_⟩
    repeat wtm_at "w"
    refine g_if2 (fun h3 => ?_) (fun h3 => ?_)
    · repeat wtm_at "w"
      refine ⟨p, L4, 7, _, rfl, mp8.kp k9 b8, b9, by omega, fun H10 x k10 b10 hx => ?_⟩
      refine g_addS (szL (by omega)) ?_
      repeat wtm_at "w"
      exact ⟨z ++ x, _, _, rfl, (k8.trans k9).trans k10, (mt8.kp k9 b8).kp k10 b9, (mp8.kp k9 b8).kp k10 b9, b10.more (by omega), by rw [lenA]; omega⟩
    · have lo : ("{" : Str).length = 1 := by decide +kernel
      have lc : ("}" : Str).length = 1 := by decide +kernel
      have a1 : (z ++ "{").length = z.length + 1 := by rw [lenA, lo]
      repeat wtm_at "w"
      refine g_addS (szL (by rw [lo]; omega)) ?_
      repeat wtm_at "w"
      refine ⟨p, _, rfl, b9, by omega, fun H10 x k10 b10 hx => ?_⟩
      have a2 : (z ++ "{" ++ x).length = z.length + 1 + x.length := by rw [lenA, a1]
      refine g_addS (szL (by omega)) ?_
      repeat wtm_at "w"
      refine ⟨p, L3, 7, _, rfl, (mt8.kp k9 b8).kp k10 b9, b10, by omega, fun H11 y k11 b11 hy => ?_⟩
      have a3 : (z ++ "{" ++ x ++ y).length = z.length + 1 + x.length + y.length := by rw [lenA, a2]
      refine g_addS (szL (by omega)) ?_
      repeat wtm_at "w"
      refine g_addS (szL (by rw [lc]; omega)) ?_
      repeat wtm_at "w"
      exact ⟨z ++ "{" ++ x ++ y ++ "}", _, _, rfl, ((k8.trans k9).trans k10).trans k11, ((mt8.kp k9 b8).kp k10 b9).kp k11 b10, ((mp8.kp k9 b8).kp k10 b9).kp k11 b10, b11.more (by omega), by rw [lenA, a3, lc]; omega⟩
  · rintro σ H8 ⟨z, t, u, rfl, k8, mt8, mp8, b8, hz8⟩
    have i5 : r * (n1 + 2) ≤ 3 * (n1 + 2) := Nat.mul_le_mul_right _ (by omega)
    have i6 : r * (m1 + 9) ≤ 3 * (m1 + 9) := Nat.mul_le_mul_right _ (by omega)
    repeat wtm_at "w"
    refine g_addS (szL (by omega)) ?_
    exact q _ _ k8 (b8.more (by omega)) (by rw [lenA]; omega)
end
section
variable {K : PySem.W.Frag} {P : Program} {w : World} {base : Heap} {mg : Str → Option Value}
local macro_rules | `(tactic| wtm_at "w") => `(tactic| first | (with_reducible refine g_tupN ?_) | (with_reducible refine g_lstN ?_) | wtm_at "g")
/-! ### a source -/
theorem cutS_tl (z : Str) (lo hi : Option Int) : tl (cutS z lo hi) = ((tl z).drop (HT.sIx z.length 0 lo)).take (HT.sIx z.length z.length hi - HT.sIx z.length 0 lo) := by simp [cutS, tl]
theorem cutS_len (z : Str) (lo hi : Option Int) : (cutS z lo hi).length ≤ z.length := by
  rw [len_tl, cutS_tl, List.length_take, List.length_drop, len_tl]
  omega
theorem cutS_to (z : Str) (n : Nat) : (cutS z none (some (n : Int))).length ≤ n := by
  rw [len_tl, cutS_tl, HT.sIx_nat, HT.sIx_none, List.length_take]
  omega
theorem atI_last {xs : List Str} (h : 0 < xs.length) : ∃ x ∈ xs, atI (xs.map V.str) (-1) = some (.str x) := by
  refine ⟨xs[xs.length - 1]'(by omega), List.getElem_mem _, ?_⟩
  unfold atI ixN
  rw [List.length_map, if_neg (by decide), if_pos (by omega)]
  show (xs.map V.str)[((-1 : Int) + (xs.length : Int)).toNat]? = _
  rw [show ((-1 : Int) + (xs.length : Int)).toNat = xs.length - 1 by omega, List.getElem?_map, List.getElem?_eq_getElem (by omega)]
  rfl
/-- the source under way: H0 the heap at the start -/
structure Src (H0 H : Hp) (p lv : Addr) (c i : Nat) : Prop where
  kp : Kp1 H0 H p
  b : BagAt H p c
  fresh : H0 lv = none
  lv : ∃ xs : List Str, H lv = some (.lst (xs.map V.str)) ∧ 0 < xs.length ∧ xs.length ≤ i + 1 ∧ ∀ x ∈ xs, x.length ≤ 4 * i
theorem Src.go {H0 H H1 : Hp} {p lv : Addr} {c c' i : Nat} (s : Src H0 H p lv c i) (k : Kp1 H H1 p) (b : BagAt H1 p c') : Src H0 H1 p lv c' i := by
  obtain ⟨xs, e, h1, h2, h3⟩ := s.lv
  exact ⟨s.kp.trans k, b, s.fresh, xs, k _ _ e (s.b.ne e), h1, h2, h3⟩
theorem Src.more {H0 H : Hp} {p lv : Addr} {c c' i j : Nat} (s : Src H0 H p lv c i) (h : c ≤ c') (hi : i ≤ j) : Src H0 H p lv c' j := by
  obtain ⟨xs, e, h1, h2, h3⟩ := s.lv
  refine ⟨s.kp, s.b.more h, s.fresh, xs, e, h1, by omega, fun x hx => ?_⟩
  have := h3 x hx
  omega
theorem Src.same {H0 H H1 : Hp} {p lv : Addr} {c i : Nat} (s : Src H0 H p lv c i) (k : Same H H1) : Src H0 H1 p lv c i := s.go (Kp1.same k) (s.b.same k)
theorem Kp1.freshIn {H0 H : Hp} {p l : Addr} {c : Nat} (k : Kp1 H0 H p) (b : BagAt H p c) (h : H l = none) : H0 l = none := by
  obtain ⟨x, y, z, e, _⟩ := b
  cases q : H0 l with
  | none => rfl
  | some o =>
    have hlp : l ≠ p := fun z => by
      rw [z, e] at h
      cases h
    rw [k _ _ q hlp] at h
    cases h
theorem SqL.strs {H : Hp} {l : Addr} {xs : List Str} (e : H l = some (.lst (xs.map V.str))) : SqL K H l (xs.map V.str) := SqL.of e
def sp_law_source : Sp := fun vs H Q _ => ∃ (p : Addr) (c : Nat), vs = [.ref p, .int 4] ∧ BagAt H p c ∧ c ≤ 900000 ∧ PostT H p c 4000 1900 Q
theorem ok_law_source (T : Top K mg) (O_law_take : Ok P w K mg base 1 "_law_take" p_law_take sp_law_take) (O_law_pick : Ok P w K mg base 2 "_law_pick" p_law_pick sp_pickM)
    (O_law_row : Ok P w K mg base 9 "_law_row" p_law_row (sp_law_row 2 590 2429 930000)) : Ok P w K mg base 10 "_law_source" p_law_source sp_law_source := by
  refine mkOk T.d_law_source T.g_law_source sc_law_source b_law_source (fun vs H Q E h => ?_) (fun f cdv A outer s H vs Q E hr h => ?_)
  · obtain ⟨p, c, rfl, _⟩ := h
    rfl
  obtain ⟨p, c, rfl, hB, hc, q⟩ := h
  refine ⟨_, (pss_cons (ps_par rfl sc_law_source.nd (i := 2) (j := 3) rfl rfl (by decide) rfl rfl (pa_cons pe_str (pa_cons (pe_lstN (pa_cons pe_str pa_nil)) pa_nil)) rfl) (pss_cons (ps_for PassesOwn.never rfl (pi_range1 rfl T.f_range (pa_cons (pc O_law_take hr rfl (pa_cons (pv 0) (pa_cons (pe_op op_add (pv 1) pe_int) pa_nil))) pa_nil)) (pg_name (i := 4) sc_law_source.nd rfl (Or.inl rfl)) (pss_cons (ps_set (i := 5) sc_law_source.nd rfl (Or.inl rfl) (pc O_law_take hr rfl (pa_cons (pv 0) (pa_cons pe_int pa_nil)))) (pss_cons (ps_if (pt_cmpR op_lt (pv 5) pe_int (nomark _)) (pss_one (ps_expr (pe_bm PySem.F.plainAttrs_list PySem.F.slot_list_append PySem.F.type_list_append mt_append (pv 3) (pa_cons (pe_op op_addS (pe_ix ix_list (pv 3) (pe_un un_neg pe_int) (fun _ _ => rfl)) (pc O_law_pick hr rfl (pa_cons (pv 0) (pa_cons (pe_lstN (pa_cons pe_str (pa_cons pe_str (pa_cons pe_str (pa_cons pe_str pa_nil))))) pa_nil)))) pa_nil)))) (pss_one (ps_if (pt_cmpR op_lt (pv 5) pe_int (nomark _)) (pss_one (ps_set (i := 3) sc_law_source.nd rfl (Or.inl rfl) (pe_slice sl_list (pv 3) po_none (po_some (pe_op op_add pe_int (pc O_law_take hr rfl (pa_cons (pv 0) (pa_cons (pe_callB cr_lnL rfl T.f_len PySem.boot_len (pa_cons (pv 3) pa_nil)) pa_nil)))))))) pss_nil))) (pss_cons (ps_if (pt_cmpR op_eq (pv 5) pe_int (nomark _)) (pss_one (ps_set (i := 2) sc_law_source.nd rfl (Or.inl rfl) (pe_op op_addS (pv 2) (pc O_law_pick hr rfl (pa_cons (pv 0) (pa_cons (pe_lstN (pa_cons pe_str (pa_cons pe_str (pa_cons pe_str (pa_cons pe_str pa_nil))))) pa_nil)))))) pss_nil) (pss_one (ps_set (i := 2) sc_law_source.nd rfl (Or.inl rfl) (pe_op op_addS (pe_op op_addS (pe_op op_addS (pv 2) (pe_ix ix_list (pv 3) (pe_un un_neg pe_int) (fun _ _ => rfl))) (pc O_law_row hr rfl (pa_cons (pv 0) (pa_cons pe_int (pa_cons pe_bl pa_nil))))) (pc O_law_pick hr rfl (pa_cons (pv 0) (pa_cons (pe_lstN (pa_cons pe_str (pa_cons pe_str (pa_cons pe_str (pa_cons pe_str pa_nil))))) pa_nil)))))))))) (pss_cons (ps_if (pt_cmpR op_eq (pc O_law_take hr rfl (pa_cons (pv 0) (pa_cons pe_int pa_nil))) pe_int (nomark _)) (pss_one (ps_set (i := 2) sc_law_source.nd rfl (Or.inl rfl) (pe_slice sl_str (pv 2) po_none (po_some (pe_un un_neg pe_int))))) pss_nil) (pss_one (ps_ret (pe_slice sl_str (pv 2) po_none (po_some pe_int))))))), ?_⟩
  try dsimp only [cxOf]
  refine g_start (σ := [some _, some _, none, none, none, none]) rfl ?_
  repeat wtm_at "w"
  refine ⟨smk rfl, fun lv H1 s1 n1 e1 => ?_⟩
  have l0 : ("" : Str).length = 0 := rfl
  have S1 : Src H H1 p lv c 0 := by
    refine ⟨Kp1.same s1, hB.same s1, n1, [("" : Str)], e1, by decide, by decide, fun x hx => ?_⟩
    rw [List.mem_singleton.mp hx, l0]
    exact Nat.le_refl _
  repeat wtm_at "w"
  refine g_forR ?_
  repeat wtm_at "w"
  refine ⟨p, 5, c, rfl, by decide, by decide, S1.b, by omega, fun H2 r hr' k2 b2 => ?_⟩
  refine g_rng (by omega) ?_
  refine runF (fun i σ H' => ∃ (z : Str) (lv : Addr) (t u : Option V), σ = [some (.ref p), some (.int 4), some (.str z), some (.ref lv), t, u] ∧ Src H H' p lv (c + 1 + i * 600) i ∧ z.length ≤ i * 2600) ?_ ?_ ?_
  · exact ⟨"", lv, none, none, rfl, (S1.go k2 b2).more (by omega) (by omega), by rw [l0]; omega⟩
  · rintro i σ H3 hi ⟨z, lv, t, u, rfl, S3, hz⟩
    repeat wtm_at "w"
    refine ⟨p, 8, _, rfl, by decide, by decide, S3.b, by omega, fun H4 way _ k4 b4 => ?_⟩
    have S4 := S3.go k4 b4
    -- the last statement
    have tail2 : ∀ (H5 : Hp) (lv : Addr) (z : Str), Src H H5 p lv (c + 1 + i * 600 + 5) (i + 1) → z.length ≤ i * 2600 + 6 →
        (tAsg (tOp rAddS (tOp rAddS (tOp rAddS (tVar 2) (tOp (rIxL K) (tVar 3) (tUn (rU fun i => .int (-i)) (tC (.int 1))))) (tCall (sp_law_row 2 590 2429 930000) [] E0 (tCons (tVar 0) (tCons (tC (.int 2)) (tCons (tC (.bl false)) tNil)))))
          (tCall sp_pickM [] E0 (tCons (tVar 0) (tCons (tLstN (tCons (tC (.str "\n")) (tCons (tC (.str "\n")) (tCons (tC (.str " # e\n")) (tCons (tC (.str "  \n")) tNil))))) tNil)))) (gName 2))
          { nx := fun σ H' => ∃ (z : Str) (lv : Addr) (t u : Option V), σ = [some (.ref p), some (.int 4), some (.str z), some (.ref lv), t, u] ∧ Src H H' p lv (c + 1 + (i + 1) * 600) (i + 1) ∧ z.length ≤ (i + 1) * 2600, rt := Q }
          [some (.ref p), some (.int 4), some (.str z), some (.ref lv), some (.int (0 + (i : Int))), some (.int (way : Int))] H5 := by
      intro H5 lv z S5 hz5
      obtain ⟨xs, e5, h1, h2, h3⟩ := S5.lv
      obtain ⟨x, hx, ex⟩ := atI_last h1
      have hxl := h3 x hx
      repeat wtm_at "w"
      refine g_ixL (v := .str x) (SqL.of e5) ex ?_
      refine g_addS (szL (by omega)) ?_
      have a1 : (z ++ x).length = z.length + x.length := lenA
      repeat wtm_at "w"
      refine ⟨p, false, _, rfl, S5.b, by omega, fun H6 y k6 b6 hy => ?_⟩
      refine g_addS (szL (by omega)) ?_
      have a2 : (z ++ x ++ y).length = z.length + x.length + y.length := by rw [lenA, a1]
      repeat wtm_at "w"
      refine ⟨smk rfl, fun L H7 s7 _ e7 => ?_⟩
      have S6 := S5.go k6 b6
      have S7 := S6.same s7
      refine ⟨p, L, 5, _, rfl, ⟨[("\n" : Str), "\n", " # e\n", "  \n"], e7, by decide, by decide, all_len (by decide +kernel)⟩, S7.b, by omega, fun H8 v k8 b8 hv => ?_⟩
      refine g_addS (szL (by omega)) ?_
      repeat wtm_at "w"
      exact ⟨z ++ x ++ y ++ v, lv, _, _, rfl, (S7.go k8 b8).more (by omega) (by omega), by rw [lenA, a2]; omega⟩
    have tail1 : ∀ (H5 : Hp) (lv : Addr), Src H H5 p lv (c + 1 + i * 600 + 4) (i + 1) →
        (tSeq (tIfS (tTest (tOp rEq (tVar 5) (tC (.int 7)))) (tAsg (tOp rAddS (tVar 2) (tCall sp_pickM [] E0 (tCons (tVar 0) (tCons (tLstN (tCons (tC (.str "\n")) (tCons (tC (.str "  \n")) (tCons (tC (.str "# c\n")) (tCons (tC (.str "\t # d\n")) tNil))))) tNil)))) (gName 2)) tNext)
          (tAsg (tOp rAddS (tOp rAddS (tOp rAddS (tVar 2) (tOp (rIxL K) (tVar 3) (tUn (rU fun i => .int (-i)) (tC (.int 1))))) (tCall (sp_law_row 2 590 2429 930000) [] E0 (tCons (tVar 0) (tCons (tC (.int 2)) (tCons (tC (.bl false)) tNil)))))
          (tCall sp_pickM [] E0 (tCons (tVar 0) (tCons (tLstN (tCons (tC (.str "\n")) (tCons (tC (.str "\n")) (tCons (tC (.str " # e\n")) (tCons (tC (.str "  \n")) tNil))))) tNil)))) (gName 2)))
          { nx := fun σ H' => ∃ (z : Str) (lv : Addr) (t u : Option V), σ = [some (.ref p), some (.int 4), some (.str z), some (.ref lv), t, u] ∧ Src H H' p lv (c + 1 + (i + 1) * 600) (i + 1) ∧ z.length ≤ (i + 1) * 2600, rt := Q }
          [some (.ref p), some (.int 4), some (.str z), some (.ref lv), some (.int (0 + (i : Int))), some (.int (way : Int))] H5 := by
      intro H5 lv S5
      repeat wtm_at "w"
      refine g_if2 (fun h7 => ?_) (fun h7 => ?_)
      · repeat wtm_at "w"
        refine ⟨smk rfl, fun L H6 s6 _ e6 => ?_⟩
        have S6 := S5.same s6
        refine ⟨p, L, 6, _, rfl, ⟨[("\n" : Str), "  \n", "# c\n", "\t # d\n"], e6, by decide, by decide, all_len (by decide +kernel)⟩, S6.b, by omega, fun H7 v k7 b7 hv => ?_⟩
        refine g_addS (szL (by omega)) ?_
        exact tail2 _ _ _ ((S6.go k7 b7).more (by omega) (by omega)) (by rw [lenA]; omega)
      · exact tail2 _ _ _ (S5.more (by omega) (by omega)) (by omega)
    repeat wtm_at "w"
    refine g_if2 (fun h2 => ?_) (fun h2 => ?_)
    · obtain ⟨xs, e4, h1, h2, h3⟩ := S4.lv
      obtain ⟨x, hx, ex⟩ := atI_last h1
      have hxl := h3 x hx
      repeat wtm_at "w"
      refine ⟨.inl ⟨rfl, _, SqL.of e4⟩, ?_⟩
      repeat wtm_at "w"
      refine g_ixL (v := .str x) (SqL.of e4) ex ?_
      repeat wtm_at "w"
      refine ⟨smk rfl, fun L H5 s5 _ e5 => ?_⟩
      have S5 := S4.same s5
      refine ⟨p, L, 4, _, rfl, ⟨[(" " : Str), "  ", "\t", "    "], e5, by decide, by decide, all_len (by decide +kernel)⟩, S5.b, by omega, fun H6 v k6 b6 hv => ?_⟩
      have S6 := S5.go k6 b6
      have e6 : H6 lv = some (.lst (xs.map V.str)) := k6 _ _ (s5 _ _ e4) (S5.b.ne (s5 _ _ e4))
      refine g_addS (szL (by omega)) ?_
      repeat wtm_at "w"
      refine ⟨lv, xs.map V.str, .str (x ++ v), rfl, rfl, e6, ?_, ?_⟩
      · rw [List.length_map]
        exact Nat.lt_of_le_of_lt (show xs.length ≤ 1000 by omega) (by decide)
      · refine tail1 _ _ ⟨?_, ?_, S6.fresh, xs ++ [x ++ v], ?_, ?_, ?_, ?_⟩
        · intro b o eb hb
          rw [upd_ne (ne_of_none eb S6.fresh)]
          exact S6.kp b o eb hb
        · obtain ⟨x', y', z', ep, w1, w2⟩ := b6
          have hne : lv ≠ p := S6.b.ne e6
          refine ⟨x', y', z', ?_, w1, by omega⟩
          rw [upd_ne hne.symm]
          exact ep
        · rw [List.map_append]
          exact upd_same
        · rw [List.length_append]
          show 0 < _ + 1
          omega
        · rw [List.length_append]
          show _ + 1 ≤ _
          omega
        · intro u hu
          rcases List.mem_append.mp hu with g1 | g1
          · have := h3 u g1
            omega
          · rw [List.mem_singleton.mp g1, lenA]
            omega
    · repeat wtm_at "w"
      refine g_if2 (fun h4 => ?_) (fun h4 => ?_)
      · obtain ⟨xs, e4, h1, h2, h3⟩ := S4.lv
        repeat wtm_at "w"
        refine g_lnL (SqL.of e4) ?_
        rw [List.length_map]
        repeat wtm_at "w"
        refine ⟨p, xs.length, _, rfl, h1, by omega, S4.b, by omega, fun H5 r5 hr5 k5 b5 => ?_⟩
        have S5 := S4.go k5 b5
        have e5 : H5 lv = some (.lst (xs.map V.str)) := k5 _ _ e4 (S4.b.ne e4)
        repeat wtm_at "w"
        refine g_slL (SqL.of e5) fun l hl => ?_
        have ec : cutV (xs.map V.str) none (some (1 + (r5 : Int))) = (xs.take (r5 + 1)).map V.str := by
          rw [show (1 + (r5 : Int)) = ((r5 + 1 : Nat) : Int) by omega]
          unfold cutV
          rw [HT.sIx_nat, HT.sIx_none, List.length_map, List.drop_zero, Nat.sub_zero, Nat.min_eq_left (by omega), List.map_take]
        rw [ec]
        refine tail1 _ _ ⟨?_, ?_, S5.kp.freshIn b5 hl, xs.take (r5 + 1), upd_same, ?_, ?_, ?_⟩
        · exact S5.kp.trans (Kp1.same (mk_same hl))
        · exact (b5.same (mk_same hl)).more (by omega)
        · rw [List.length_take]
          omega
        · rw [List.length_take]
          omega
        · intro u hu
          have := h3 u (List.mem_of_mem_take hu)
          omega
      · exact tail1 _ _ (S4.more (by omega) (by omega))
  · rintro σ H3 ⟨z, lv, t, u, rfl, S3, hz⟩
    have hz' : z.length ≤ 20000 := by omega
    have zl : z.length ≤ sizeLine := szL (by omega)
    repeat wtm_at "w"
    refine ⟨p, 4, _, rfl, by decide, by decide, S3.b, by omega, fun H4 r4 _ k4 b4 => ?_⟩
    have S4 := S3.go k4 b4
    have fin : ∀ y : Str, y.length ≤ 20000 → Q (.str (cutS y none (some 1900))) H4 := fun y hy => q _ _ S4.kp (b4.more (by omega)) (cutS_to y 1900)
    repeat wtm_at "w"
    refine g_if2 (fun h0 => ?_) (fun h0 => ?_)
    · have zl2 : (cutS z none (some (-1))).length ≤ 20000 := Nat.le_trans (cutS_len _ _ _) hz'
      repeat wtm_at "w"
      exact fin _ zl2
    · repeat wtm_at "w"
      exact fin _ hz'
end
section
variable {K : PySem.W.Frag} {P : Program} {w : World} {base : Heap} {mg : Str → Option Value}
local macro_rules | `(tactic| wtm_at "w") => `(tactic| first | (with_reducible refine g_tupN ?_) | (with_reducible refine g_lstN ?_) | wtm_at "g")
/-! ### a spoilt text -/
theorem repS_le {z : Str} {j : Nat} (h : z.length ≤ 1) (hj : j ≤ 1) : (repS z j).length ≤ 1 := by
  rw [len_tl, tl_repS, List.length_flatten, List.map_replicate, List.sum_replicate_nat, ← len_tl]
  exact Nat.le_trans (Nat.mul_le_mul hj h) (by decide)
theorem spoilers : ∃ L : List Nat, tl ("'\"\\\n\t {}()[]#f0x_.!:=a$" : Str) = L ∧ 0 < L.length ∧ L.length ≤ 1000 := ⟨_, rfl, by decide +kernel, by decide +kernel⟩
def sp_law_spoilt : Sp := fun vs H Q _ => ∃ (p : Addr) (x : Str) (c : Nat), vs = [.ref p, .str x] ∧ x.length ≤ 40000 ∧ BagAt H p c ∧ c ≤ 950000 ∧ PostT H p c 3 (2 * x.length + 1) Q
theorem ok_law_spoilt (T : Top K mg) (O_law_take : Ok P w K mg base 1 "_law_take" p_law_take sp_law_take) (O_law_pick : Ok P w K mg base 2 "_law_pick" p_law_pick sp_pickM) : Ok P w K mg base 3 "_law_spoilt" p_law_spoilt sp_law_spoilt := by
  refine mkOk T.d_law_spoilt T.g_law_spoilt sc_law_spoilt b_law_spoilt (fun vs H Q E h => ?_) (fun f cdv A outer s H vs Q E hr h => ?_)
  · obtain ⟨p, x, c, rfl, _⟩ := h
    rfl
  obtain ⟨p, x, c, rfl, hx, hB, hc, q⟩ := h
  have hxl : x.length ≤ sizeLine := szL (by omega)
  refine ⟨_, (pss_cons (ps_par rfl sc_law_spoilt.nd (i := 2) (j := 3) rfl rfl (by decide) rfl rfl (pa_cons (pc O_law_take hr rfl (pa_cons (pv 0) (pa_cons (pe_op op_add (pe_callB cr_lnS rfl T.f_len PySem.boot_len (pa_cons (pv 1) pa_nil)) pe_int) pa_nil))) (pa_cons (pc O_law_pick hr rfl (pa_cons (pv 0) (pa_cons (pe_callTy (cr_listS rfl) rfl T.f_list (by decide +kernel) (pa_cons pe_str pa_nil)) pa_nil))) pa_nil)) rfl) (pss_cons (ps_set (i := 4) sc_law_spoilt.nd rfl (Or.inl rfl) (pc O_law_take hr rfl (pa_cons (pv 0) (pa_cons pe_int pa_nil)))) (pss_cons (ps_if (pt_cmpR op_eq (pv 4) pe_int (nomark _)) (pss_one (ps_ret (pe_op op_addS (pe_op op_addS (pe_slice sl_str (pv 1) po_none (po_some (pv 2))) (pv 3)) (pe_slice sl_str (pv 1) (po_some (pv 2)) po_none)))) pss_nil) (pss_one (ps_ret (pe_op op_addS (pe_op op_addS (pe_slice sl_str (pv 1) po_none (po_some (pv 2))) (pe_op op_mulS (pv 3) (pe_callTy call_int1 rfl T.f_int (by decide +kernel) (pa_cons (pe_cmpR op_eq (pv 4) pe_int (nomark _)) pa_nil)))) (pe_slice sl_str (pv 1) (po_some (pe_op op_add (pv 2) pe_int)) po_none))))))), ?_⟩
  try dsimp only [cxOf]
  refine g_start (σ := [some _, some _, none, none, none]) rfl ?_
  repeat wtm_at "w"
  refine ⟨p, x.length + 1, c, rfl, by omega, by omega, hB, by omega, fun H1 at_ hat k1 b1 => ?_⟩
  repeat wtm_at "w"
  obtain ⟨L, eL, hL0, hL1⟩ := spoilers
  refine ⟨("'\"\\\n\t {}()[]#f0x_.!:=a$" : Str), rfl, by decide +kernel, fun l hl => ?_⟩
  have b2 := b1.same (mk_same (o := .lst (sgs ("'\"\\\n\t {}()[]#f0x_.!:=a$" : Str))) hl)
  have k2 : Kp1 H (upd H1 l (.lst (sgs ("'\"\\\n\t {}()[]#f0x_.!:=a$" : Str)))) p := k1.trans (Kp1.same (mk_same hl))
  have m2 : MenuAt (upd H1 l (.lst (sgs ("'\"\\\n\t {}()[]#f0x_.!:=a$" : Str)))) 1 l := by
    refine ⟨L.map fun c => (⟨#[c]⟩ : Str), ?_, by rw [List.length_map]; exact hL0, by rw [List.length_map]; exact hL1, fun y hy => ?_⟩
    · rw [upd_same]
      unfold sgs
      rw [eL, List.map_map]
      rfl
    · obtain ⟨c, _, rfl⟩ := List.mem_map.mp hy
      exact Nat.le_refl 1
  generalize upd H1 l (.lst (sgs ("'\"\\\n\t {}()[]#f0x_.!:=a$" : Str))) = H2 at b2 k2 m2 ⊢
  repeat wtm_at "w"
  refine ⟨p, l, 1, _, rfl, m2, b2, by omega, fun H3 g k3 b3 hg => ?_⟩
  have hgl : g.length ≤ sizeLine := szL (by omega)
  repeat wtm_at "w"
  refine ⟨p, 3, _, rfl, by decide, by decide, b3, by omega, fun H4 way _ k4 b4 => ?_⟩
  have k04 := (k2.trans k3).trans k4
  have c1 : ∀ lo hi, (cutS x lo hi).length ≤ x.length := fun lo hi => cutS_len x lo hi
  have fin : ∀ (a b : Str) (lo hi lo' hi' : Option Int), a = cutS x lo hi → b.length ≤ 1 → Q (.str (a ++ b ++ cutS x lo' hi')) H4 := fun a b lo hi lo' hi' ha hb => by
    refine q _ _ k04 b4 ?_
    have c2 := c1 lo hi
    have c3 := c1 lo' hi'
    rw [lenA, lenA, ha]
    omega
  repeat wtm_at "w"
  refine g_if2 (fun h0 => ?_) (fun h0 => ?_)
  · repeat wtm_at "w"
    have c2 := c1 none (some (at_ : Int))
    refine g_addS (szL (by omega)) ?_
    repeat wtm_at "w"
    have c3 := c1 (some (at_ : Int)) none
    refine g_addS (szL (by rw [lenA]; omega)) ?_
    exact fin _ _ _ _ _ _ rfl hg
  · repeat wtm_at "w"
    refine .inr ⟨_, rfl, ?_⟩
    rw [show (if decide (V.int (way : Int) = V.int 2) = true then (1 : Int) else 0) = (((if decide (V.int (way : Int) = V.int 2) = true then 1 else 0) : Nat) : Int) from by split <;> rfl]
    have hj : (if decide (V.int (way : Int) = V.int 2) = true then 1 else 0) ≤ 1 := by split <;> decide
    generalize (if decide (V.int (way : Int) = V.int 2) = true then 1 else 0) = j at hj ⊢
    refine g_mulS (by omega) (by omega) ?_
    have hr1 := repS_le hg hj
    have c2 := c1 none (some (at_ : Int))
    refine g_addS (szL (by omega)) ?_
    repeat wtm_at "w"
    have c3 := c1 (some ((at_ : Int) + 1)) none
    refine g_addS (szL (by rw [lenA]; omega)) ?_
    exact fin _ _ _ _ _ _ rfl hr1
/-! ### any source -/
def sp_law_any_source : Sp := fun vs H Q _ => ∃ (p : Addr) (c : Nat), vs = [.ref p, .int 4, .int 4] ∧ BagAt H p c ∧ c ≤ 900000 ∧ PostT H p c 5000 40000 Q
theorem ok_law_any_source (T : Top K mg) (O_law_take : Ok P w K mg base 1 "_law_take" p_law_take sp_law_take) (O_law_source : Ok P w K mg base 10 "_law_source" p_law_source sp_law_source)
    (O_law_spoilt : Ok P w K mg base 3 "_law_spoilt" p_law_spoilt sp_law_spoilt) : Ok P w K mg base 11 "_law_any_source" p_law_any_source sp_law_any_source := by
  refine mkOk T.d_law_any_source T.g_law_any_source sc_law_any_source b_law_any_source (fun vs H Q E h => ?_) (fun f cdv A outer s H vs Q E hr h => ?_)
  · obtain ⟨p, c, rfl, _⟩ := h
    rfl
  obtain ⟨p, c, rfl, hB, hc, q⟩ := h
  refine ⟨_, (pss_cons (ps_set (i := 3) sc_law_any_source.nd rfl (Or.inl rfl) (pc O_law_source hr rfl (pa_cons (pv 0) (pa_cons (pv 1) pa_nil)))) (pss_cons (ps_for PassesOwn.never rfl (pi_range1 rfl T.f_range (pa_cons (pc O_law_take hr rfl (pa_cons (pv 0) (pa_cons (pe_op op_add (pv 2) pe_int) pa_nil))) pa_nil)) (pg_name (i := 4) sc_law_any_source.nd rfl (Or.inl rfl)) (pss_one (ps_set (i := 3) sc_law_any_source.nd rfl (Or.inl rfl) (pc O_law_spoilt hr rfl (pa_cons (pv 0) (pa_cons (pv 3) pa_nil)))))) (pss_one (ps_ret (pv 3))))), ?_⟩
  try dsimp only [cxOf]
  refine g_start (σ := [some _, some _, some _, none, none]) rfl ?_
  repeat wtm_at "w"
  refine ⟨p, c, rfl, hB, hc, fun H1 z k1 b1 hz => ?_⟩
  repeat wtm_at "w"
  refine g_forR ?_
  repeat wtm_at "w"
  refine ⟨p, 5, _, rfl, by decide, by decide, b1, by omega, fun H2 r hr' k2 b2 => ?_⟩
  refine g_rng (by omega) ?_
  refine runF (fun i σ H' => ∃ (z : Str) (t : Option V), σ = [some (.ref p), some (.int 4), some (.int 4), some (.str z), t] ∧ Kp1 H H' p ∧ BagAt H' p (c + 4001 + i * 3) ∧ z.length + 1 ≤ 1901 * 2 ^ i) ?_ ?_ ?_
  · exact ⟨z, none, rfl, k1.trans k2, b2.more (by omega), by omega⟩
  · rintro i σ H3 hi ⟨z, t, rfl, k3, b3, hz3⟩
    have h16 : 2 ^ i ≤ 2 ^ 3 := Nat.pow_le_pow_right (by decide) (by omega)
    have h17 : 2 ^ (i + 1) = 2 ^ i * 2 := Nat.pow_succ _ _
    have h18 : 1901 * 2 ^ i ≤ 1901 * 2 ^ 3 := Nat.mul_le_mul_left _ h16
    repeat wtm_at "w"
    refine ⟨p, z, _, rfl, by omega, b3, by omega, fun H4 y k4 b4 hy => ?_⟩
    exact ⟨y, _, rfl, k3.trans k4, b4.more (by omega), by rw [h17]; omega⟩
  · rintro σ H3 ⟨z, t, rfl, k3, b3, hz3⟩
    have h16 : 2 ^ r ≤ 2 ^ 4 := Nat.pow_le_pow_right (by decide) (by omega)
    have h18 : 1901 * 2 ^ r ≤ 1901 * 2 ^ 4 := Nat.mul_le_mul_left _ h16
    repeat wtm_at "w"
    exact q _ _ k3 (b3.more (by omega)) (by omega)
/-! ### the tower: depths 0, 1, 2 -/
theorem ok_no {x : Str} {st : Stmt} {N ps : List Str} (F : ∃ fd, FnP K x x st (He.ga K x) fd) (g : mg x = some (.ref (He.ga K x))) (S : FnScope N ps (defScope st)) (hb : BindsBy x x st ps) : Ok P w K mg base 1 x ps spNo :=
  mkOk F g S hb (fun _ _ _ _ h => h.elim) (fun _ _ _ _ _ _ _ _ _ _ h => h.elim)
theorem ok_tower (T : Top K mg) (O_law_take : Ok P w K mg base 1 "_law_take" p_law_take sp_law_take) (O_law_pick : Ok P w K mg base 2 "_law_pick" p_law_pick sp_law_pick)
    (O_law_plain : Ok P w K mg base 3 "_law_plain" p_law_plain sp_law_plain) : Ok P w K mg base 9 "_law_row" p_law_row (sp_law_row 2 590 2429 930000) := by
  have nR : Ok P w K mg base 3 "_law_row" p_law_row spNo := (ok_no T.d_law_row T.g_law_row sc_law_row b_law_row).up (by decide)
  have nF : Ok P w K mg base 3 "_law_formatted" p_law_formatted spNo := (ok_no T.d_law_formatted T.g_law_formatted sc_law_formatted b_law_formatted).up (by decide)
  have no : ∀ {A : Prop}, (0 : Int) ≠ 0 → A := fun h => absurd rfl h
  have a0 : Ok P w K mg base 4 "_law_atom" p_law_atom (sp_law_atom 0 3 13 980000) :=
    ok_law_atom T (d1 := -1) (n1 := 0) (m1 := 0) (n2 := 0) (m2 := 0) (M1 := 990000) (by decide) (O_law_take.up (by decide)) (O_law_pick.up (by decide)) O_law_plain nR nF (fun h => no h) (fun h => no h) (by decide) (by decide) (by decide) (by decide) (by decide) (fun h => no h) (fun h => no h) (fun h => no h) (fun h => no h)
  have r0 : Ok P w K mg base 5 "_law_row" p_law_row (sp_law_row 0 20 89 970000) := ok_law_row T (O_law_take.up (by decide)) (pickM (O_law_pick.up (by decide))) a0 (by decide) (by decide) (by decide) (by decide) (by decide)
  have f0 : Ok P w K mg base 5 "_law_formatted" p_law_formatted (sp_law_atom 0 18 75 970000) := ok_law_formatted T (O_law_take.up (by decide)) (pickM (O_law_pick.up (by decide))) a0 (by decide) (by decide) (by decide) (by decide) (by decide)
  have a1 : Ok P w K mg base 6 "_law_atom" p_law_atom (sp_law_atom 1 22 91 960000) :=
    ok_law_atom T (d1 := 0) (M1 := 970000) (by decide) (O_law_take.up (by decide)) (O_law_pick.up (by decide)) (O_law_plain.up (by decide)) r0 f0 (fun _ _ _ _ _ h => h) (fun _ _ _ _ _ h => h) (by decide) (by decide) (by decide) (by decide) (by decide) (fun _ => by decide) (fun _ => by decide) (fun _ => by decide) (fun _ => by decide)
  have r1 : Ok P w K mg base 7 "_law_row" p_law_row (sp_law_row 1 115 479 950000) := ok_law_row T (O_law_take.up (by decide)) (pickM (O_law_pick.up (by decide))) a1 (by decide) (by decide) (by decide) (by decide) (by decide)
  have f1 : Ok P w K mg base 7 "_law_formatted" p_law_formatted (sp_law_atom 1 75 309 950000) := ok_law_formatted T (O_law_take.up (by decide)) (pickM (O_law_pick.up (by decide))) a1 (by decide) (by decide) (by decide) (by decide) (by decide)
  have a2 : Ok P w K mg base 8 "_law_atom" p_law_atom (sp_law_atom 2 117 481 940000) :=
    ok_law_atom T (d1 := 1) (M1 := 950000) (by decide) (O_law_take.up (by decide)) (O_law_pick.up (by decide)) (O_law_plain.up (by decide)) r1 f1 (fun _ _ _ _ _ h => h) (fun _ _ _ _ _ h => h) (by decide) (by decide) (by decide) (by decide) (by decide) (fun _ => by decide) (fun _ => by decide) (fun _ => by decide) (fun _ => by decide)
  exact ok_law_row T (O_law_take.up (by decide)) (pickM (O_law_pick.up (by decide))) a2 (by decide) (by decide) (by decide) (by decide) (by decide)
end
section
variable {K : PySem.W.Frag} {P : Program} {w : World} {base : Heap} {mg : Str → Option Value}
/-! ### a token is out: what replacing wants to know -/
section
variable {X : Cx} {e : Expr} {es : List Expr} {te : TE} {ta : TA} {st : Stmt} {rest : List Stmt} {t u : TS}
/-- an argument list, an expression, a statement behind which a token is out -/
def PAG (X : Cx) (es : List Expr) (ta : TA) : Prop := ∀ pos pins s σ H Q, Inv X pins σ H s → ta σ H Q →
  wpAny (model X.prog X.w) X.A (spliced (backTo pos (starEach es X.env))) (fun us s' => 1 ≤ s'.toks ∧ AP X pins σ Q us s') X.xe s
def PEG (X : Cx) (e : Expr) (te : TE) : Prop := ∀ pins s σ H Q, Inv X pins σ H s → te σ H Q →
  wpAny (model X.prog X.w) X.A (eval e X.env) (fun v s' => 1 ≤ s'.toks ∧ EP X pins σ Q v s') X.xe s
def PSG (X : Cx) (st : Stmt) (t : TS) : Prop := ∀ pins s σ H D, Inv X pins σ H s → t D σ H →
  wpAny (model X.prog X.w) X.A (exec st X.env) (fun f s' => 1 ≤ s'.toks ∧ SP X pins D f s') X.xe s
theorem pag_two {z : Str} {j : Nat} {cp : Pos} (he : PE X e te) (h1 : starEach [e, .Constant (.str z) j cp] X.env = [(false, eval e X.env), (false, eval (.Constant (.str z) j cp) X.env)] := by rfl) :
    PAG X [e, .Constant (.str z) j cp] (tCons te (tCons (tC (.str z)) tNil)) := by
  intro pos pins s σ H Q I q
  rw [h1]
  show wpAny _ _ (spliced [(false, eval e X.env), (false, eval (.Constant (.str z) j cp) X.env)]) _ _ s
  refine Calls.spliced_cons (wpAny_mono (he.run pins s σ H _ I q) (fun v s1 r => ?_) fun _ _ x => x)
  obtain ⟨x, H1, I1, r1, q1⟩ := r
  refine Calls.spliced_cons (Calls.Constant_str (Calls.spliced_nil ⟨Nat.succ_le_succ (Nat.zero_le _), [x, .str z], H1, I1.tok _, ?_, q1⟩))
  exact .cons r1 (.cons ⟨_, rfl⟩ .nil)
theorem peg_call {k j : Nat} {x : Str} {ps : List Str} {sp : Sp} {p pos : Pos} (O : Ok X.prog X.w X.K X.mg X.base k x ps sp) (hr : Room j X.A) (hg : Gl X x) (ha : PAG X (e :: es) ta) (hk : k ≤ j := by decide) (hdb : (x == ("__debug__" : Str)) = false := by decide)
    (he : starEach (e :: es) X.env = (false, eval e X.env) :: starEach es X.env := by rfl) (hpl : (backTo pos (starEach es X.env)).any (·.1) = false := by rfl) : PEG X (.Call (.Name x p) (e :: es) [] pos) (tCall sp [] E0 ta) := by
  obtain ⟨⟨fd, F, b⟩, g, kp⟩ := O
  intro pins s σ H Q I q
  refine wpAny_Call_Name_kw (ld_glob I hg g ?_ hdb)
  refine PySem.W.callWith_K (h₀ := X.base) I.ok.mod.kin kp (wpAny_mono (ha pos pins s σ H _ I q) (fun us s1 r => ?_) fun _ _ x => x) he hpl
  obtain ⟨ht, vs, H1, I1, r1, q1⟩ := r
  exact ⟨I1.kIn, wpAny_mono (PySem.wpAny_toks_of ht (run_fn F (hr.mono hk) b .nil pass0 I1 r1 q1)) (fun _ _ x => x) fun _ _ x => x.2⟩
theorem psg_set {i : Nat} {x : Str} {p' pos : Pos} (hN : X.N.Nodup) (hi : X.N[i]? = some x) (hx : Loc X.env.scope x) (he : PEG X e te) (hs : swapsWith e (some (.Name x p')) pos.line X.env = pure false := by rfl)
    (hf : X.fn x = true ∨ X.env.scope.names.lookup x = some .local := by first | exact .inl rfl | exact .inr rfl) : PSG X (.Assign [.Name x p'] e pos) (tAsg te (gName i)) := by
  intro pins s σ H D I q
  refine wpAny_Assign_Name (wpAny_mono (he pins s σ H _ I q) (fun v s1 r => ?_) fun _ _ x => x) hs
  obtain ⟨ht, y, H1, I1, r1, q1⟩ := r
  exact wpAny_mono (PySem.wpAny_toks_of ht (store_ok (Q := fun _ s2 => Inv X pins (σ.set i (some y)) H1 s2) I1 hN hi hx r1 (fun _ I2 => I2) hf)) (fun _ s2 r2 => ⟨r2.1, _, H1, r2.2, q1⟩) fun _ _ x => x.2
theorem pst_set {i : Nat} {x : Str} {p' pos : Pos} (hN : X.N.Nodup) (hi : X.N[i]? = some x) (hx : Loc X.env.scope x) (he : PET X e te) (hs : swapsWith e (some (.Name x p')) pos.line X.env = pure false := by rfl)
    (hf : X.fn x = true ∨ X.env.scope.names.lookup x = some .local := by first | exact .inl rfl | exact .inr rfl) : PST X (.Assign [.Name x p'] e pos) (tAsg te (gName i)) := by
  intro pins s σ H D h0 I q
  refine wpAny_Assign_Name (wpAny_mono (he pins s σ H _ h0 I q) (fun v s1 r => ?_) fun _ _ x => x) hs
  obtain ⟨y, H1, I1, r1, q1⟩ := r
  exact store_ok I1 hN hi hx r1 (fun s2 J => ⟨_, H1, J, q1⟩) hf
theorem pss_gcons (h1 : PSG X st t) (h2 : PSsT X rest u) : PSs X (st :: rest) (tSeq t u) := by
  refine ⟨fun pins s σ H D I q => ?_⟩
  refine wpAny_execs_cons (wpAny_mono (h1 pins s σ H { D with nx := u D } I q) (fun f s1 r => ?_) fun _ _ x => x)
  obtain ⟨ht, r⟩ := r
  cases f with
  | next =>
    obtain ⟨σ', H', I', q'⟩ := r
    exact h2 pins s1 σ' H' D ht I' q'
  | ret v => exact r
  | brk => exact r
  | cont => exact r
end
/-! ### the doubled text -/
theorem repl1 (a c : Nat) (z r : List Nat) : StrLaws.replL [a] z (c :: r) = if c = a then z ++ StrLaws.replL [a] z r else c :: StrLaws.replL [a] z r := by
  by_cases h : c = a
  · rw [if_pos h, StrLaws.replL_hit (by simp) (by rw [h]; rfl)]
    rfl
  · rw [if_neg h, StrLaws.replL_miss (by
      intro e
      have e2 : [c] = [a] := e
      exact h (List.cons.inj e2).1)]
def dbl (L : List Nat) : List Nat := StrLaws.replL [125] [125, 125] (StrLaws.replL [123] [123, 123] L)
theorem dbl_nil : dbl [] = [] := by
  unfold dbl
  rw [StrLaws.replL_nil, StrLaws.replL_nil]
theorem dbl_cons (c : Nat) (r : List Nat) : dbl (c :: r) = if c = 123 ∨ c = 125 then c :: c :: dbl r else c :: dbl r := by
  unfold dbl
  rw [repl1 123 c]
  by_cases h : c = 123
  · rw [if_pos h, if_pos (.inl h), List.cons_append, List.cons_append, List.nil_append, repl1, repl1, h]
    rfl
  · rw [if_neg h, repl1]
    by_cases h2 : c = 125
    · rw [if_pos h2, if_pos (.inr h2), h2]
      rfl
    · rw [if_neg h2, if_neg (by
        intro e
        rcases e with e | e
        · exact h e
        · exact h2 e)]
theorem dbl_db : ∀ {L : List Nat}, (∀ b ∈ L, b ≠ 39 ∧ b ≠ 34 ∧ b ≠ 92) → DB (dbl L) ∧ (dbl L).length ≤ 2 * L.length
  | [], _ => by
    rw [dbl_nil]
    exact ⟨.nil, Nat.zero_le _⟩
  | c :: r, h => by
    obtain ⟨ih1, ih2⟩ := dbl_db (L := r) fun b hb => h b (List.mem_cons_of_mem _ hb)
    obtain ⟨h1, h2, h3⟩ := h c (List.mem_cons_self ..)
    rw [dbl_cons]
    by_cases hc : c = 123 ∨ c = 125
    · rw [if_pos hc]
      refine ⟨.two c hc ih1, ?_⟩
      simp only [List.length_cons]
      omega
    · rw [if_neg hc]
      refine ⟨.one c h3 (fun e => hc (.inl e)) (fun e => hc (.inr e)) h1 h2 ih1, ?_⟩
      simp only [List.length_cons]
      omega
theorem tl_dbl (x : Str) : tl (Txt.replace (Txt.replace x "{" "{{") "}" "}}") = dbl (tl x) := by
  unfold dbl
  have e1 : tl (Txt.replace x "{" "{{") = StrLaws.replL [123] [123, 123] (tl x) := StrLaws.replace_list (x := x) (y := "{") (z := "{{") (by decide +kernel)
  have e2 : tl (Txt.replace (Txt.replace x "{" "{{") "}" "}}") = StrLaws.replL [125] [125, 125] (tl (Txt.replace x "{" "{{")) := StrLaws.replace_list (x := Txt.replace x "{" "{{") (y := "}") (z := "}}") (by decide +kernel)
  rw [e2, e1]
end
section
variable {K : PySem.W.Frag} {P : Program} {w : World} {base : Heap} {mg : Str → Option Value}
local macro_rules | `(tactic| wtm_at "w") => `(tactic| first | (with_reducible refine g_tupN ?_) | (with_reducible refine g_lstN ?_) | wtm_at "g")
/-! ### the law -/
theorem g_repl {to : TE} {y z : Str} {σ : L2.St} {H : Hp} {Q : VK} (q : to σ H fun v H1 => ∃ x, v = .str x ∧ x.length + (x.length + 1) * z.length ≤ 16777216 ∧ Q (.str (Txt.replace x y z)) H1) : CwR.tReplC to y z σ H Q := q
theorem one_not {b : Nat} {L : List Nat} (h : b ∉ L) {c : Nat} (hc : c ∈ L) : b ≠ c := fun e => h (by rw [e]; exact hc)
theorem prefix_of {x : Str} (h : x ∈ ([("" : Str), "r", "B", "bR", "u"] : List Str)) : tl x ∈ prefixes ∧ x.length ≤ 2 := by
  simp only [List.mem_cons, List.not_mem_nil, or_false] at h
  rcases h with rfl | rfl | rfl | rfl | rfl <;> exact ⟨by decide +kernel, by decide +kernel⟩
theorem quote_of {x : Str} (h : x ∈ ([("'''" : Str), "\"\"\""] : List Str)) : ∃ c, (c = 39 ∨ c = 34) ∧ x = ⟨#[c, c, c]⟩ := by
  simp only [List.mem_cons, List.not_mem_nil, or_false] at h
  rcases h with rfl | rfl
  · exact ⟨39, .inl rfl, by decide +kernel⟩
  · exact ⟨34, .inr rfl, by decide +kernel⟩
/-- the two strings: three quotes around, one quote around a line -/
theorem right3 {pf pl : Str} {c : Nat} (hp : tl pf ∈ prefixes) (hc : c = 39 ∨ c = 34) (hB : ∀ b ∈ tl pl, b ≠ 39 ∧ b ≠ 34 ∧ b ≠ 92) :
    ∀ z, tl z = 97 :: 32 :: (tl (pf ++ (⟨#[c, c, c]⟩ : Str) ++ pl ++ (⟨#[c, c, c]⟩ : Str)) ++ [32, 43, 32, 98, 10]) → TokY z (tl (pf ++ (⟨#[c, c, c]⟩ : Str) ++ pl ++ (⟨#[c, c, c]⟩ : Str))).length := by
  intro z hz
  have e : tl (pf ++ (⟨#[c, c, c]⟩ : Str) ++ pl ++ (⟨#[c, c, c]⟩ : Str)) = tl pf ++ ((c :: [c, c]) ++ (tl pl ++ (c :: [c, c]))) := by
    rw [tl_append, tl_append, tl_append]
    show ((tl pf ++ [c, c, c]) ++ tl pl) ++ [c, c, c] = _
    simp
  rw [e] at hz ⊢
  refine tokY_of hz hp hc (.inr rfl) fun b hb => ?_
  obtain ⟨h1, h2, h3⟩ := hB b hb
  exact ⟨h1, h2, h3, fun e => by cases e⟩
theorem right1 {pf pl : Str} {c : Nat} (hp : tl pf ∈ prefixes) (hc : c = 39 ∨ c = 34) (hB : ∀ b ∈ tl pl, b ≠ 39 ∧ b ≠ 34 ∧ b ≠ 92 ∧ b ≠ 10) :
    ∀ z, tl z = 97 :: 32 :: (tl (pf ++ (⟨#[c]⟩ : Str) ++ pl ++ (⟨#[c]⟩ : Str)) ++ [32, 43, 32, 98, 10]) → TokY z (tl (pf ++ (⟨#[c]⟩ : Str) ++ pl ++ (⟨#[c]⟩ : Str))).length := by
  intro z hz
  have e : tl (pf ++ (⟨#[c]⟩ : Str) ++ pl ++ (⟨#[c]⟩ : Str)) = tl pf ++ ((c :: []) ++ (tl pl ++ (c :: []))) := by
    rw [tl_append, tl_append, tl_append]
    show ((tl pf ++ [c]) ++ tl pl) ++ [c] = _
    simp
  rw [e] at hz ⊢
  refine tokY_of hz hp hc (.inl rfl) fun b hb => ?_
  obtain ⟨h1, h2, h3, h4⟩ := hB b hb
  exact ⟨h1, h2, h3, fun _ => h4⟩
def sp_law : Sp := fun vs H Q _ => ∃ (a : Addr) (xs : List Int), vs = [.ref a] ∧ SqL K H a (xs.map V.int) ∧ ∀ H', Same H H' → Q (.bl true) H'
/-- a def's promise, its function object given -/
theorem mkFn {k : Nat} {x : Str} {ps : List Str} {sp : Sp} {st : Stmt} {N : List Str} {f0 : Addr} {fd : FuncData} (F : FnP K x x st f0 fd) (S : FnScope N ps (defScope st)) (len : ∀ vs H Q E, sp vs H Q E → vs.length = ps.length)
    (body : ∀ (f : Addr) (cdv : Value) (A : Around) (outer : List Env) (s : Shared) (H : Hp) (vs : List V) (Q : VK) (E : XK), Room k (A.deeper (envOfC x (defScope st) s.heap.objs.size f cdv)) → sp vs H Q E →
      ∃ t, PSs (cxOf CX0 P w K mg base N x (defScope st) f cdv A outer s H E).nox (defBody st) t ∧ t { nx := fun _ H' => Q .non H', rt := Q } (start N vs) H) : FnOk P w K mg base CX0 (k + 1) f0 fd ps sp := by
  refine F.ok S len fun cdv A outer s H vs Q E hr h => ?_
  obtain ⟨t, h1, h2⟩ := body _ cdv A outer s H vs Q E hr h
  exact ⟨t, h1.nox, h2⟩
theorem fn_law (T : Top K mg) {fd : FuncData} (F : FnP K "law" "law" s_law (He.ga K "law") fd) (O_law_bag : Ok P w K mg base 1 "_law_bag" p_law_bag (sp_law_bag (K := K))) (O_law_any_source : Ok P w K mg base 11 "_law_any_source" p_law_any_source sp_law_any_source)
    (O_law_without : Ok P w K mg base 1 "_law_without" p_law_without sp_law_without) (O_law_pick : Ok P w K mg base 2 "_law_pick" p_law_pick sp_law_pick) (O_law_right : Ok P w K mg base 10 "_law_right" p_law_right sp_law_right)
    (O_law_formatted_right : Ok P w K mg base 10 "_law_formatted_right" p_law_formatted_right sp_law_formatted_right) (O_law_comment_right : Ok P w K mg base 10 "_law_comment_right" p_law_comment_right sp_law_comment_right) :
    FnOk P w K mg base CX0 12 (He.ga K "law") fd p_law (sp_law (K := K)) := by
  refine mkFn F sc_law (fun vs H Q E h => ?_) (fun f cdv A outer s H vs Q E hr h => ?_)
  · obtain ⟨a, xs, rfl, _⟩ := h
    rfl
  obtain ⟨a, xs, rfl, hS, q⟩ := h
  refine ⟨_, (pss_cons (ps_for PassesOwn.never rfl (pi_range1 rfl T.f_range (pa_cons (pe_callB (call_max2 rfl) rfl T.f_max (by decide +kernel) (pa_cons pe_int (pa_cons (pe_callB (call_min2 rfl) rfl T.f_min (by decide +kernel) (pa_cons pe_int (pa_cons (pe_callB cr_lnL rfl T.f_len PySem.boot_len (pa_cons (pv 0) pa_nil)) pa_nil))) pa_nil))) pa_nil)) (pg_name (i := 1) sc_law.nd rfl (Or.inl rfl)) (pss_cons (ps_set (i := 2) sc_law.nd rfl (Or.inl rfl) (pc O_law_bag hr rfl (pa_cons (pv 0) (pa_cons (pv 1) pa_nil)))) (pss_cons (ps_set (i := 3) sc_law.nd rfl (Or.inl rfl) (pe_slice sl_str (pc O_law_any_source hr rfl (pa_cons (pv 2) (pa_cons pe_int (pa_cons pe_int pa_nil)))) po_none (po_some pe_int))) (pss_cons (ps_par rfl sc_law.nd (i := 4) (j := 5) rfl rfl (by decide) rfl rfl (pa_cons (pc O_law_without hr rfl (pa_cons (pv 3) (pa_cons pe_str pa_nil))) (pa_cons (pc O_law_pick hr rfl (pa_cons (pv 2) (pa_cons (pe_lstN (pa_cons pe_str (pa_cons pe_str pa_nil))) pa_nil))) pa_nil)) rfl) (pss_cons (ps_set (i := 6) sc_law.nd rfl (Or.inl rfl) (pc O_law_pick hr rfl (pa_cons (pv 2) (pa_cons (pe_lstN (pa_cons pe_str (pa_cons pe_str (pa_cons pe_str (pa_cons pe_str (pa_cons pe_str pa_nil)))))) pa_nil)))) (pss_cons (ps_if (pt_not (pt_val (pc O_law_right hr rfl (pa_cons pe_str (pa_cons (pe_op op_addS (pe_op op_addS (pe_op op_addS (pv 6) (pv 5)) (pv 4)) (pv 5)) pa_nil))))) (pss_one (ps_ret pe_bl)) pss_nil) (pss_gcons (psg_set (i := 7) sc_law.nd rfl (Or.inl rfl) (peg_call O_law_without hr rfl (pag_two (pv 4))))
    (psst_cons (PST.of (ps_if (pt_not (pt_val (pc O_law_right hr rfl (pa_cons pe_str (pa_cons (pe_op op_addS (pe_op op_addS (pe_op op_addS (pv 6) (pe_ix ix_str (pv 5) pe_int (fun _ _ => rfl))) (pv 7)) (pe_ix ix_str (pv 5) pe_int (fun _ _ => rfl))) pa_nil))))) (pss_one (ps_ret pe_bl)) pss_nil))
    (psst_cons (pst_set (i := 8) sc_law.nd rfl (Or.inl rfl) (CwR.pet_replT (CwR.pet_replC (pv 4))))
    (PSsT.of (pss_one (ps_if (PW.pt (pw_or (pt_not (pt_val (pc O_law_formatted_right hr rfl (pa_cons (pv 8) (pa_cons (pv 5) pa_nil))))) (pw_or1 (pt_not (pt_val (pc O_law_comment_right hr rfl (pa_cons (pc O_law_without hr rfl (pa_cons (pv 3) (pa_cons pe_str pa_nil))) pa_nil))))))) (pss_one (ps_ret pe_bl)) pss_nil)))))))))))) (pss_one (ps_ret pe_bl))), ?_⟩
  try dsimp only [cxOf]
  refine g_start (σ := [some _, none, none, none, none, none, none, none, none]) rfl ?_
  repeat wtm_at "w"
  refine g_forR ?_
  repeat wtm_at "w"
  refine g_lnL hS ?_
  repeat wtm_at "w"
  refine ⟨_, _, rfl, ?_⟩
  repeat wtm_at "w"
  refine ⟨_, _, rfl, ?_⟩
  obtain ⟨n, en, hn⟩ : ∃ n : Nat, (if (if ((xs.map V.int).length : Int) < 8 then ((xs.map V.int).length : Int) else 8) > 3 then (if ((xs.map V.int).length : Int) < 8 then ((xs.map V.int).length : Int) else 8) else 3) = (n : Int) ∧ n ≤ 8 := by
    refine ⟨(if (if ((xs.map V.int).length : Int) < 8 then ((xs.map V.int).length : Int) else 8) > 3 then (if ((xs.map V.int).length : Int) < 8 then ((xs.map V.int).length : Int) else 8) else 3).toNat, ?_, ?_⟩ <;> split <;> split <;> omega
  repeat wtm_at "w"
  rw [en]
  refine g_rng (n := n) (by omega) ?_
  refine runF (fun i σ H' => ∃ t1 t2 t3 t4 t5 t6 t7 t8 : Option V, σ = [some (.ref a), t1, t2, t3, t4, t5, t6, t7, t8] ∧ Same H H') ⟨_, _, _, _, _, _, _, _, rfl, Same.refl H⟩ ?_ ?_
  · rintro i σ H1 hi ⟨t1, t2, t3, t4, t5, t6, t7, t8, rfl, s1⟩
    rw [Int.zero_add]
    repeat wtm_at "w"
    refine ⟨a, xs, i, rfl, SqL.to hS s1, by omega, fun H2 B s2 nB hB => ?_⟩
    have nB0 : H B = none := s1.free nB
    have k2 : Kp1 H H2 B := Kp1.same (s1.trans s2)
    repeat wtm_at "w"
    refine ⟨B, 0, rfl, hB, by decide, fun H3 z k3 b3 hz => ?_⟩
    have zl : z.length ≤ sizeLine := szL (by omega)
    repeat wtm_at "w"
    have hx : (cutS z none (some 900)).length ≤ 900 := cutS_to z 900
    generalize cutS z none (some 900) = x at hx ⊢
    refine ⟨x, _, rfl, by omega, fun H4 s4 => ?_⟩
    have eq3 : tl ("'\"\\" : Str) = [39, 34, 92] := by decide +kernel
    rw [eq3]
    have hpl : (wo x [39, 34, 92]).length ≤ 900 := Nat.le_trans (wo_len _ _) hx
    have hout : ∀ b ∈ tl (wo x [39, 34, 92]), b ≠ 39 ∧ b ≠ 34 ∧ b ≠ 92 := fun b hb => by
      have h1 := (wo_out hb).2
      simp only [List.mem_cons, List.not_mem_nil, or_false, not_or] at h1
      exact h1
    generalize wo x [39, 34, 92] = pl at hpl hout ⊢
    have b4 := b3.same s4
    repeat wtm_at "w"
    refine ⟨smk rfl, fun L H5 s5 _ e5 => ?_⟩
    have b5 := b4.same s5
    refine ⟨B, L, [("'''" : Str), "\"\"\""], _, rfl, e5, by decide, by decide, b5, by omega, fun H6 qu hqu k6 b6 => ?_⟩
    obtain ⟨c, hc, rfl⟩ := quote_of hqu
    repeat wtm_at "w"
    refine ⟨smk rfl, fun L2 H7 s7 _ e7 => ?_⟩
    have b7 := b6.same s7
    refine ⟨B, L2, [("" : Str), "r", "B", "bR", "u"], _, rfl, e7, by decide, by decide, b7, by omega, fun H8 pf hpf k8 b8 => ?_⟩
    obtain ⟨hp1, hp2⟩ := prefix_of hpf
    have k08 : Kp1 H H8 B := (((((k2.trans k3).trans (Kp1.same s4)).trans (Kp1.same s5)).trans k6).trans (Kp1.same s7)).trans k8
    have s08 : Same H H8 := k08.free nB0
    have lq : (⟨#[c, c, c]⟩ : Str).length = 3 := rfl
    have l1 : (⟨#[c]⟩ : Str).length = 1 := rfl
    have a1 : (pf ++ (⟨#[c, c, c]⟩ : Str)).length = pf.length + 3 := by rw [lenA, lq]
    have a2 : (pf ++ (⟨#[c, c, c]⟩ : Str) ++ pl).length = pf.length + 3 + pl.length := by rw [lenA, a1]
    have a3 : (pf ++ (⟨#[c]⟩ : Str)).length = pf.length + 1 := by rw [lenA, l1]
    repeat wtm_at "w"
    refine g_addS (szL (by rw [lq]; omega)) ?_
    repeat wtm_at "w"
    refine g_addS (szL (by omega)) ?_
    repeat wtm_at "w"
    refine g_addS (szL (by rw [lq]; omega)) ?_
    repeat wtm_at "w"
    refine ⟨_, rfl, by rw [lenA, a2, lq]; omega, right3 hp1 hc hout, fun H9 s9 => ?_⟩
    have s09 := s08.trans s9
    repeat wtm_at "w"
    refine g_ifF rfl ?_
    repeat wtm_at "w"
    refine ⟨pl, _, rfl, by omega, fun H10 s10 => ?_⟩
    have e10 : tl ("\n" : Str) = [10] := by decide +kernel
    rw [e10]
    have hln : (wo pl [10]).length ≤ 900 := Nat.le_trans (wo_len _ _) hpl
    have hlo : ∀ b ∈ tl (wo pl [10]), b ≠ 39 ∧ b ≠ 34 ∧ b ≠ 92 ∧ b ≠ 10 := fun b hb => by
      obtain ⟨h1, h2⟩ := wo_out hb
      obtain ⟨g1, g2, g3⟩ := hout b h1
      exact ⟨g1, g2, g3, fun e => h2 (by rw [e]; exact List.mem_singleton.mpr rfl)⟩
    generalize wo pl [10] = ln at hln hlo ⊢
    have a4 : (pf ++ (⟨#[c]⟩ : Str) ++ ln).length = pf.length + 1 + ln.length := by rw [lenA, a3]
    repeat wtm_at "w"
    refine g_ix2 (c := c) (szL (by rw [lq]; decide)) rfl ?_
    refine g_addS (szL (by rw [l1]; omega)) ?_
    repeat wtm_at "w"
    refine g_addS (szL (by omega)) ?_
    repeat wtm_at "w"
    refine g_ix2 (c := c) (szL (by rw [lq]; decide)) rfl ?_
    refine g_addS (szL (by rw [l1]; omega)) ?_
    repeat wtm_at "w"
    refine ⟨_, rfl, by rw [lenA, a4, l1]; omega, right1 hp1 hc hlo, fun H11 s11 => ?_⟩
    have s011 := (s09.trans s10).trans s11
    repeat wtm_at "w"
    refine g_ifF rfl ?_
    repeat wtm_at "w"
    refine g_repl ?_
    refine g_repl ?_
    repeat wtm_at "w"
    have lo1 : ("{{" : Str).length = 2 := by decide +kernel
    have lo2 : ("}}" : Str).length = 2 := by decide +kernel
    have r1 : (Txt.replace pl "{" "{{").length ≤ pl.length + (pl.length + 1) * 2 := by
      rw [← lo1]
      exact TK.replace_len _ _ _
    refine ⟨pl, rfl, by rw [lo1]; omega, _, rfl, by rw [lo2]; omega, ?_⟩
    have td := tl_dbl pl
    obtain ⟨hdb, hdl⟩ := dbl_db hout
    have hdl2 : (Txt.replace (Txt.replace pl "{" "{{") "}" "}}").length ≤ 1800 := by
      rw [len_tl, td]
      rw [← len_tl] at hdl
      omega
    rw [← td] at hdb
    generalize Txt.replace (Txt.replace pl "{" "{{") "}" "}}" = dd at hdb hdl2 ⊢
    repeat wtm_at "w"
    refine ⟨dd, c, rfl, hc, by omega, hdb, fun H12 s12 => ?_⟩
    repeat wtm_at "w"
    refine g_ifF rfl ?_
    repeat wtm_at "w"
    refine ⟨x, _, rfl, by omega, fun H13 s13 => ?_⟩
    rw [e10]
    repeat wtm_at "w"
    refine ⟨_, rfl, Nat.le_trans (wo_len _ _) (by omega), fun b hb e => (wo_out hb).2 (by rw [e]; exact List.mem_singleton.mpr rfl), fun H14 s14 => ?_⟩
    repeat wtm_at "w"
    refine g_ifF rfl ?_
    repeat wtm_at "w"
    exact ⟨_, _, _, _, _, _, _, _, rfl, ((s011.trans s12).trans s13).trans s14⟩
  · rintro σ H1 ⟨t1, t2, t3, t4, t5, t6, t7, t8, rfl, s1⟩
    repeat wtm_at "w"
    exact q _ s1
end
section
variable {K : PySem.W.Frag} {P : Program} {w : World} {base : Heap} {mg : Str → Option Value}
/-! ### all together -/
theorem fn_all (T : Top K mg) {fd : FuncData} (F : FnP K "law" "law" s_law (He.ga K "law") fd) : FnOk P w K mg base CX0 12 (He.ga K "law") fd p_law (sp_law (K := K)) := by
  have O_is_word_character : Ok P w K mg base 1 "is_word_character" p_is_word_character sp_is_word_character := ok_is_word_character T
  have O_name_end : Ok P w K mg base 2 "name_end" p_name_end sp_name_end := ok_name_end T O_is_word_character
  have O_quote_at : Ok P w K mg base 1 "quote_at" p_quote_at sp_quote_at := ok_quote_at T
  have O_string_end : Ok P w K mg base 1 "string_end" p_string_end sp_string_end := ok_string_end T
  have O_operator_end : Ok P w K mg base 1 "operator_end" p_operator_end sp_operator_end := ok_operator_end T
  have O_width_of : Ok P w K mg base 1 "width_of" p_width_of sp_width_of := ok_width_of T
  have O_add : OkM P w K mg base 1 "Scanner" "add" p_Scanner_add (sp_add (cS K) (cF K)) := ok_add T
  have O_add_lexeme := ok_add_lexeme T O_add
  have O_finish := ok_finish T O_add
  have O_comment_end : OkM P w K mg base 1 "Scanner" "comment_end" p_Scanner_comment_end (sp_comment_end (cS K) (cF K)) := ok_comment_end T
  have O_read_string := ok_read_string T O_quote_at O_string_end O_add_lexeme
  have O_read_word := ok_read_word T O_name_end O_read_string (ok_begin_string T O_quote_at (ok_Frame_init T) O_add_lexeme) O_add_lexeme
  have O_read_lexeme := ok_read_lexeme T O_read_word O_read_string (ok_read_operator T O_operator_end O_add_lexeme)
  have O_read_indentation := ok_read_indentation T (ok_read_last_gap T O_finish) (ok_read_empty_line T O_add O_comment_end) (ok_compare_indentation T O_width_of)
  have O_read_part := ok_read_part T (ok_part_end T) (ok_add_part T O_add) O_add
  have O_read_step := ok_read_step T O_read_part O_read_indentation (ok_read_comment T O_add O_comment_end) (ok_read_line_feed T O_add) O_read_lexeme O_finish
  have O_read_on := ok_read_on T O_read_step
  have O_read := readT (ok_read T (ok_Scanner_init T) (ok_feed T O_read_on) (ok_close T O_read_on))
  have O_take : Ok P w K mg base 1 "_law_take" p_law_take sp_law_take := ok_law_take T
  have O_pick := ok_law_pick T O_take
  have O_source := ok_law_source T O_take (pickM O_pick) (ok_tower T O_take O_pick (ok_law_plain T O_take (pickM O_pick)))
  exact fn_law T F (ok_law_bag T) (ok_law_any_source T O_take O_source (ok_law_spoilt T O_take (pickM O_pick))) (ok_law_without T) O_pick (ok_law_right T O_read) (ok_law_formatted_right T O_read) (ok_law_comment_right T O_read)
end
section
abbrev R : PySem.W.OpenRow := PySem.W.OpenLaw.row PySem.Challenge.rw_indentokens_k21_whole_insides_are_hidden
abbrev hkX : PySem.W.Hook := He.hookX 4 fas dfs [] [] exB
def ob (s : PySem.W.SharedT) : He.AlX := He.obsX 4 fas dfs [] [] exB (HandSHeadRun.getT s)
theorem ob_eq (s : PySem.W.SharedT) : ob s = hkX.obs s.abs := He.obsX_eq (HandSHeadRun.getT_eq s)
abbrev RunAt (w : World) : Prop := HandSHeadRun.RunEq R (PySem.W.view R.prog [45]) hkX ob 12000 loose w
theorem headNo (w : World) : RunAt (w.withFollow "special-get-raises" false) := by
  intro os
  kernel_rfl
theorem headYes (w : World) : RunAt (w.withFollow "special-get-raises" true) := by
  intro os
  kernel_rfl
theorem run (w : World) : RunAt w := PySem.W.byRow2 "special-get-raises" (P := RunAt) headNo headYes w
end
/-! ### the law, from the head on -/
theorem law_at {P : Program} {w : World} {K : PySem.W.Frag} {h : Heap} {mg : Str → Option Value} {f : Addr} (T : Top K mg) (hfa : mg ("law" : Str) = some (.ref f)) :
    ∃ fd : FuncData, (∀ (s : Shared) (v : Value), BindsTo s fd ⟨[v], []⟩ [("_law_script", v)]) ∧ ∀ base : Heap, K.In base → base.Ns mainGlobals mg → FnOk P w K mg base CX0 12 f fd ["_law_script"] (sp_law (K := K)) := by
  obtain ⟨fd, F⟩ := T.d_law
  have e := hfa.symm.trans T.g_law
  cases e
  have b := FunD.bindsA (ps := ["_law_script"]) F b_law
  exact ⟨fd, fun s v => b s [v] rfl, fun base _ _ => fn_all T F⟩
end G3
open PySem PyProof.Rows PySem.W PySem.Calls
theorem PySem.Challenge.cw_indentokens_k21_whole_insides_are_hidden_holds : PySem.Challenge.rw_indentokens_k21_whole_insides_are_hidden.Holds := by
  w_on; o_law
  refine HandSHeadRun.head_any (r := G3.R) (q := view (OpenLaw.row PySem.Challenge.rw_indentokens_k21_whole_insides_are_hidden).prog [45]) (H := G3.hkX) (ob := G3.ob) (M := 12000) (loose := G3.loose)
    (d := HandSHeadRun.topDef (OpenLaw.row PySem.Challenge.rw_indentokens_k21_whole_insides_are_hidden).prog 45) (kwd := []) G3.ob_eq
    (by kernel_rfl) (fun s => by kernel_rfl) G3.run (by kernel_rfl) (by kernel_rfl) (by kernel_rfl) (by rfl)
    (by first | assumption | decide +kernel) (by decide +kernel) ⟨rfl, rfl, rfl, rfl, rfl, by decide +kernel⟩ ?hw ?hc
  case hw => w_witness2
  case hc =>
    refine L2.walk_ofE (l := PySem.Challenge.rw_indentokens_k21_whole_insides_are_hidden) (n := 63) (k := 12) (x := "_law_script") (CX := L2.CX0) rfl (by decide) (by kernel_rfl) ⟨rfl, by decide, by decide⟩ ?F (fun _ _ _ _ z => z)
    intro w mg fa h Y G hmg0
    obtain ⟨K, KX, c⟩ := Y
    have law_is : mg ("law" : PySem.Str) = some (.ref fa) := by
      have e : (HandSHeadRun.topDef (OpenLaw.row PySem.Challenge.rw_indentokens_k21_whole_insides_are_hidden).prog 45).name = ("law" : PySem.Str) := by kernel_rfl
      rw [← e]
      exact hmg0
    obtain ⟨fd, hb, hF⟩ := G3.law_at (P := (PySem.Challenge.rw_indentokens_k21_whole_insides_are_hidden).prog) (w := w) (h := h) ⟨c.t.d, c.more, ⟨h, KX, G⟩⟩ law_is
    exact ⟨K, fd, G3.sp_law (K := K), KX, hb, fun H a ns hl _ hS => ⟨a, ns, rfl, hS, fun _ _ => rfl⟩, hF⟩
