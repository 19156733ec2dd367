import PyProof.Rows.All
import Wide.All
import OpenK.AllK
import Wide.FinOn
import Lean
import PySem.Challenge.RW_nz0319_01
set_option Elab.async false
set_option linter.unusedVariables false
set_option linter.unusedSimpArgs false
open PySem PySem.W PyProof.Rows
namespace Mine
set_option maxRecDepth 100000 in
theorem law_of (h : PySem.Challenge.rw_nz0319_01.row.wellSaid = true → PySem.Challenge.rw_nz0319_01.row.Holds) : PySem.Challenge.rw_nz0319_01.Holds := by
  w_on; o_law; exact h (by assumption)
noncomputable abbrev PG : Program := PySem.W.Fast.tw17816752537992605239
noncomputable def nth {α : Type} (d : α) : List α → Nat → α
  | [], _ => d
  | x :: _, 0 => x
  | _ :: r, n + 1 => nth d r n
noncomputable def noArgs : Arguments := ⟨[], [], none, [], [], none, []⟩
noncomputable def noScope : Scope := ⟨.function, [], false, false, []⟩
noncomputable def sArgs : Stmt → Arguments
  | .FunctionDef _ a _ _ _ _ _ _ _ _ => a
  | _ => noArgs
noncomputable def sBody : Stmt → List Stmt
  | .FunctionDef _ _ b _ _ _ _ _ _ _ => b
  | .ClassDef _ _ _ b _ _ _ _ _ _ _ => b
  | _ => []
noncomputable def sScope : Stmt → Scope
  | .FunctionDef _ _ _ _ _ _ s _ _ _ => s
  | _ => noScope
noncomputable def sPos : Stmt → Pos
  | .FunctionDef _ _ _ _ _ _ _ _ _ p => p
  | _ => ⟨0, 0, 0, 0⟩
noncomputable def stm (i : Nat) : Stmt := nth (.Pass ⟨0,0,0,0⟩) PG.main.body i
noncomputable def mth (i j : Nat) : Stmt := nth (.Pass ⟨0,0,0,0⟩) (sBody (stm i)) j
noncomputable def K0 (P : Params) (x : Str) (t : Tok) (v : Value) : DictEntry := ⟨PyData.keyHash P x, .str x t, v⟩
noncomputable def s_code : Str := ⟨#[99, 111, 100, 101]⟩
noncomputable def s_octets : Str := ⟨#[111, 99, 116, 101, 116, 115]⟩
noncomputable def s_len : Str := ⟨#[108, 101, 110]⟩
noncomputable def s_alphabet : Str := ⟨#[97, 108, 112, 104, 97, 98, 101, 116]⟩
noncomputable def s_place : Str := ⟨#[112, 108, 97, 99, 101]⟩
noncomputable def s_codes : Str := ⟨#[99, 111, 100, 101, 115]⟩
noncomputable def s_begin : Str := ⟨#[98, 101, 103, 105, 110]⟩
noncomputable def s_group_codes : Str := ⟨#[103, 114, 111, 117, 112, 95, 99, 111, 100, 101, 115]⟩
noncomputable def s_part_encoded : Str := ⟨#[112, 97, 114, 116, 95, 101, 110, 99, 111, 100, 101, 100]⟩
noncomputable def s_SIGNS : Str := ⟨#[83, 73, 71, 78, 83]⟩
noncomputable def s_PAD : Str := ⟨#[80, 65, 68]⟩
noncomputable def s_width : Str := ⟨#[119, 105, 100, 116, 104]⟩
noncomputable def s_line : Str := ⟨#[108, 105, 110, 101]⟩
noncomputable def s_LINE_END : Str := ⟨#[76, 73, 78, 69, 95, 69, 78, 68]⟩
noncomputable def s_join : Str := ⟨#[106, 111, 105, 110]⟩
noncomputable def s_in_lines : Str := ⟨#[105, 110, 95, 108, 105, 110, 101, 115]⟩
noncomputable def s_one_line : Str := ⟨#[111, 110, 101, 95, 108, 105, 110, 101]⟩
noncomputable def s___init__ : Str := ⟨#[95, 95, 105, 110, 105, 116, 95, 95]⟩
noncomputable def s_self : Str := ⟨#[115, 101, 108, 102]⟩
noncomputable def s_what : Str := ⟨#[119, 104, 97, 116]⟩
noncomputable def s_at : Str := ⟨#[97, 116]⟩
noncomputable def s_ : Str := ⟨#[]⟩
noncomputable def s_lower_code : Str := ⟨#[108, 111, 119, 101, 114, 95, 99, 111, 100, 101]⟩
noncomputable def s_sign : Str := ⟨#[115, 105, 103, 110]⟩
noncomputable def s_text : Str := ⟨#[116, 101, 120, 116]⟩
noncomputable def s_behind : Str := ⟨#[98, 101, 104, 105, 110, 100]⟩
noncomputable def s_end : Str := ⟨#[101, 110, 100]⟩
noncomputable def s_data : Str := ⟨#[100, 97, 116, 97]⟩
noncomputable def s_found : Str := ⟨#[102, 111, 117, 110, 100]⟩
noncomputable def s_feed : Str := ⟨#[102, 101, 101, 100]⟩
noncomputable def s_last : Str := ⟨#[108, 97, 115, 116]⟩
noncomputable def s_RETURN : Str := ⟨#[82, 69, 84, 85, 82, 78]⟩
noncomputable def s_name : Str := ⟨#[110, 97, 109, 101]⟩
noncomputable def s_raw : Str := ⟨#[114, 97, 119]⟩
noncomputable def s_lower_text : Str := ⟨#[108, 111, 119, 101, 114, 95, 116, 101, 120, 116]⟩
noncomputable def s_spot : Str := ⟨#[115, 112, 111, 116]⟩
noncomputable def s_rows : Str := ⟨#[114, 111, 119, 115]⟩
noncomputable def s_later : Str := ⟨#[108, 97, 116, 101, 114]⟩
noncomputable def s_line_at : Str := ⟨#[108, 105, 110, 101, 95, 97, 116]⟩
noncomputable def s_rows_of : Str := ⟨#[114, 111, 119, 115, 95, 111, 102]⟩
noncomputable def s_word : Str := ⟨#[119, 111, 114, 100]⟩
noncomputable def s_words : Str := ⟨#[119, 111, 114, 100, 115]⟩
noncomputable def s_field : Str := ⟨#[102, 105, 101, 108, 100]⟩
noncomputable def s_fields : Str := ⟨#[102, 105, 101, 108, 100, 115]⟩
noncomputable def s_is_name : Str := ⟨#[105, 115, 95, 110, 97, 109, 101]⟩
noncomputable def s_row : Str := ⟨#[114, 111, 119]⟩
noncomputable def s_WHITE : Str := ⟨#[87, 72, 73, 84, 69]⟩
noncomputable def s_is_sound : Str := ⟨#[105, 115, 95, 115, 111, 117, 110, 100]⟩
noncomputable def s_WordFault : Str := ⟨#[87, 111, 114, 100, 70, 97, 117, 108, 116]⟩
noncomputable def s_CRLF : Str := ⟨#[67, 82, 76, 70]⟩
noncomputable def s_charset : Str := ⟨#[99, 104, 97, 114, 115, 101, 116]⟩
noncomputable def s_CHARSETS : Str := ⟨#[67, 72, 65, 82, 83, 69, 84, 83]⟩
noncomputable def s_MimeFault : Str := ⟨#[77, 105, 109, 101, 70, 97, 117, 108, 116]⟩
noncomputable def s_length : Str := ⟨#[108, 101, 110, 103, 116, 104]⟩
noncomputable def s_utf8_length : Str := ⟨#[117, 116, 102, 56, 95, 108, 101, 110, 103, 116, 104]⟩
noncomputable def s_left : Str := ⟨#[108, 101, 102, 116]⟩
noncomputable def s_UTF8 : Str := ⟨#[85, 84, 70, 56]⟩
noncomputable def s_ASCII : Str := ⟨#[65, 83, 67, 73, 73]⟩
noncomputable def s_need_charset : Str := ⟨#[110, 101, 101, 100, 95, 99, 104, 97, 114, 115, 101, 116]⟩
noncomputable def s_has_sign : Str := ⟨#[104, 97, 115, 95, 115, 105, 103, 110]⟩
noncomputable def s_utf8_octets : Str := ⟨#[117, 116, 102, 56, 95, 111, 99, 116, 101, 116, 115]⟩
noncomputable def s_parts : Str := ⟨#[112, 97, 114, 116, 115]⟩
noncomputable def s_NEVER_ESCAPED : Str := ⟨#[78, 69, 86, 69, 82, 95, 69, 83, 67, 65, 80, 69, 68]⟩
noncomputable def s_signs : Str := ⟨#[115, 105, 103, 110, 115]⟩
noncomputable def s_top : Str := ⟨#[116, 111, 112]⟩
noncomputable def s_sub : Str := ⟨#[115, 117, 98]⟩
noncomputable def s_params : Str := ⟨#[112, 97, 114, 97, 109, 115]⟩
noncomputable def s_BARRED : Str := ⟨#[66, 65, 82, 82, 69, 68]⟩
noncomputable def s_is_token_code : Str := ⟨#[105, 115, 95, 116, 111, 107, 101, 110, 95, 99, 111, 100, 101]⟩
noncomputable def s_BARRED_IN_NAMES : Str := ⟨#[66, 65, 82, 82, 69, 68, 95, 73, 78, 95, 78, 65, 77, 69, 83]⟩
noncomputable def s_PER_CENT : Str := ⟨#[80, 69, 82, 95, 67, 69, 78, 84]⟩
noncomputable def s_HEX_FIGURES : Str := ⟨#[72, 69, 88, 95, 70, 73, 71, 85, 82, 69, 83]⟩
noncomputable def s_piece : Str := ⟨#[112, 105, 101, 99, 101]⟩
noncomputable def s_pieces : Str := ⟨#[112, 105, 101, 99, 101, 115]⟩
noncomputable def s_room : Str := ⟨#[114, 111, 111, 109]⟩
noncomputable def s_percent_encoded : Str := ⟨#[112, 101, 114, 99, 101, 110, 116, 95, 101, 110, 99, 111, 100, 101, 100]⟩
noncomputable def s_octets_in : Str := ⟨#[111, 99, 116, 101, 116, 115, 95, 105, 110]⟩
noncomputable def s_WIDTH : Str := ⟨#[87, 73, 68, 84, 72]⟩
noncomputable def s_in_rows : Str := ⟨#[105, 110, 95, 114, 111, 119, 115]⟩
noncomputable def s_ROOM : Str := ⟨#[82, 79, 79, 77]⟩
noncomputable def s_number_octets : Str := ⟨#[110, 117, 109, 98, 101, 114, 95, 111, 99, 116, 101, 116, 115]⟩
noncomputable def s_escaped_octets : Str := ⟨#[101, 115, 99, 97, 112, 101, 100, 95, 111, 99, 116, 101, 116, 115]⟩
noncomputable def s_number : Str := ⟨#[110, 117, 109, 98, 101, 114]⟩
noncomputable def s_is_token : Str := ⟨#[105, 115, 95, 116, 111, 107, 101, 110]⟩
noncomputable def s_MOST_NAME : Str := ⟨#[77, 79, 83, 84, 95, 78, 65, 77, 69]⟩
noncomputable def s_is_plain_params : Str := ⟨#[105, 115, 95, 112, 108, 97, 105, 110, 95, 112, 97, 114, 97, 109, 115]⟩
noncomputable def s_encoded_rows : Str := ⟨#[101, 110, 99, 111, 100, 101, 100, 95, 114, 111, 119, 115]⟩
noncomputable def s_quoted_rows : Str := ⟨#[113, 117, 111, 116, 101, 100, 95, 114, 111, 119, 115]⟩
noncomputable def s_MOST_PARTS : Str := ⟨#[77, 79, 83, 84, 95, 80, 65, 82, 84, 83]⟩
noncomputable def s_head : Str := ⟨#[104, 101, 97, 100]⟩
noncomputable def s_param_rows : Str := ⟨#[112, 97, 114, 97, 109, 95, 114, 111, 119, 115]⟩
noncomputable def s_kind : Str := ⟨#[107, 105, 110, 100]⟩
noncomputable def s_write_params : Str := ⟨#[119, 114, 105, 116, 101, 95, 112, 97, 114, 97, 109, 115]⟩
noncomputable def s_EQUALS : Str := ⟨#[69, 81, 85, 65, 76, 83]⟩
noncomputable def s_HEX : Str := ⟨#[72, 69, 88]⟩
noncomputable def s_BLANK : Str := ⟨#[66, 76, 65, 78, 75]⟩
noncomputable def s_TAB : Str := ⟨#[84, 65, 66]⟩
noncomputable def s_is_white : Str := ⟨#[105, 115, 95, 119, 104, 105, 116, 101]⟩
noncomputable def s_is_plain_quoted : Str := ⟨#[105, 115, 95, 112, 108, 97, 105, 110, 95, 113, 117, 111, 116, 101, 100]⟩
noncomputable def s_quoted_code : Str := ⟨#[113, 117, 111, 116, 101, 100, 95, 99, 111, 100, 101]⟩
noncomputable def s_lines : Str := ⟨#[108, 105, 110, 101, 115]⟩
noncomputable def s_is_text : Str := ⟨#[105, 115, 95, 116, 101, 120, 116]⟩
noncomputable def s_LEAST_WIDTH : Str := ⟨#[76, 69, 65, 83, 84, 95, 87, 73, 68, 84, 72]⟩
noncomputable def s_text_lines : Str := ⟨#[116, 101, 120, 116, 95, 108, 105, 110, 101, 115]⟩
noncomputable def s_soft_lines : Str := ⟨#[115, 111, 102, 116, 95, 108, 105, 110, 101, 115]⟩
noncomputable def s_line_pieces : Str := ⟨#[108, 105, 110, 101, 95, 112, 105, 101, 99, 101, 115]⟩
noncomputable def s_joined_lines : Str := ⟨#[106, 111, 105, 110, 101, 100, 95, 108, 105, 110, 101, 115]⟩
noncomputable def s_unfolded : Str := ⟨#[117, 110, 102, 111, 108, 100, 101, 100]⟩
noncomputable def s_told_piece : Str := ⟨#[116, 111, 108, 100, 95, 112, 105, 101, 99, 101]⟩
noncomputable def s_letter : Str := ⟨#[108, 101, 116, 116, 101, 114]⟩
noncomputable def s_leaf : Str := ⟨#[108, 101, 97, 102]⟩
noncomputable def s_told : Str := ⟨#[116, 111, 108, 100]⟩
noncomputable def s_fields_told : Str := ⟨#[102, 105, 101, 108, 100, 115, 95, 116, 111, 108, 100]⟩
noncomputable def s_many : Str := ⟨#[109, 97, 110, 121]⟩
noncomputable def s_depth : Str := ⟨#[100, 101, 112, 116, 104]⟩
noncomputable def s_rest : Str := ⟨#[114, 101, 115, 116]⟩
noncomputable def s_Letter822 : Str := ⟨#[76, 101, 116, 116, 101, 114, 56, 50, 50]⟩
noncomputable def s_bare_piece : Str := ⟨#[98, 97, 114, 101, 95, 112, 105, 101, 99, 101]⟩
noncomputable def s_line_spans : Str := ⟨#[108, 105, 110, 101, 95, 115, 112, 97, 110, 115]⟩
noncomputable def s_MOST_LINE : Str := ⟨#[77, 79, 83, 84, 95, 76, 73, 78, 69]⟩
noncomputable def s_is_seven_bit : Str := ⟨#[105, 115, 95, 115, 101, 118, 101, 110, 95, 98, 105, 116]⟩
noncomputable def s_PLAIN_ENCODING : Str := ⟨#[80, 76, 65, 73, 78, 95, 69, 78, 67, 79, 68, 73, 78, 71]⟩
noncomputable def s_encoded : Str := ⟨#[101, 110, 99, 111, 100, 101, 100]⟩
noncomputable def s_quoted_encoded : Str := ⟨#[113, 117, 111, 116, 101, 100, 95, 101, 110, 99, 111, 100, 101, 100]⟩
noncomputable def s_encoding : Str := ⟨#[101, 110, 99, 111, 100, 105, 110, 103]⟩
noncomputable def s_boundary : Str := ⟨#[98, 111, 117, 110, 100, 97, 114, 121]⟩
noncomputable def s_BOUNDARY_LEAD : Str := ⟨#[66, 79, 85, 78, 68, 65, 82, 89, 95, 76, 69, 65, 68]⟩
noncomputable def s_begins_line : Str := ⟨#[98, 101, 103, 105, 110, 115, 95, 108, 105, 110, 101]⟩
noncomputable def s_without_words : Str := ⟨#[119, 105, 116, 104, 111, 117, 116, 95, 119, 111, 114, 100, 115]⟩
noncomputable def s_OWN_WORDS : Str := ⟨#[79, 87, 78, 95, 87, 79, 82, 68, 83]⟩
noncomputable def s_check_fields : Str := ⟨#[99, 104, 101, 99, 107, 95, 102, 105, 101, 108, 100, 115]⟩
noncomputable def s_Field : Str := ⟨#[70, 105, 101, 108, 100]⟩
noncomputable def s_write_kind : Str := ⟨#[119, 114, 105, 116, 101, 95, 107, 105, 110, 100]⟩
noncomputable def s_write_fields : Str := ⟨#[119, 114, 105, 116, 101, 95, 102, 105, 101, 108, 100, 115]⟩
noncomputable def s_is_multi : Str := ⟨#[105, 115, 95, 109, 117, 108, 116, 105]⟩
noncomputable def s_is_letter : Str := ⟨#[105, 115, 95, 108, 101, 116, 116, 101, 114]⟩
noncomputable def s_choose_encoding : Str := ⟨#[99, 104, 111, 111, 115, 101, 95, 101, 110, 99, 111, 100, 105, 110, 103]⟩
noncomputable def s_head_octets : Str := ⟨#[104, 101, 97, 100, 95, 111, 99, 116, 101, 116, 115]⟩
noncomputable def s_in_encoding : Str := ⟨#[105, 110, 95, 101, 110, 99, 111, 100, 105, 110, 103]⟩
noncomputable def s_built : Str := ⟨#[98, 117, 105, 108, 116]⟩
noncomputable def s_boundary_for : Str := ⟨#[98, 111, 117, 110, 100, 97, 114, 121, 95, 102, 111, 114]⟩
noncomputable def s_Kind : Str := ⟨#[75, 105, 110, 100]⟩
noncomputable def s_joined_bodies : Str := ⟨#[106, 111, 105, 110, 101, 100, 95, 98, 111, 100, 105, 101, 115]⟩
noncomputable def s_letter_whole : Str := ⟨#[108, 101, 116, 116, 101, 114, 95, 119, 104, 111, 108, 101]⟩
noncomputable def s_Many : Str := ⟨#[77, 97, 110, 121]⟩
noncomputable def s_many_octets : Str := ⟨#[109, 97, 110, 121, 95, 111, 99, 116, 101, 116, 115]⟩
noncomputable def s_letter_octets : Str := ⟨#[108, 101, 116, 116, 101, 114, 95, 111, 99, 116, 101, 116, 115]⟩
noncomputable def s_leaf_octets : Str := ⟨#[108, 101, 97, 102, 95, 111, 99, 116, 101, 116, 115]⟩
noncomputable def s_cells : Str := ⟨#[99, 101, 108, 108, 115]⟩
noncomputable def s_tape : Str := ⟨#[116, 97, 112, 101]⟩
noncomputable def s_limit : Str := ⟨#[108, 105, 109, 105, 116]⟩
noncomputable def s_way : Str := ⟨#[119, 97, 121]⟩
noncomputable def s__law_draw : Str := ⟨#[95, 108, 97, 119, 95, 100, 114, 97, 119]⟩
noncomputable def s_told_fields : Str := ⟨#[116, 111, 108, 100, 95, 102, 105, 101, 108, 100, 115]⟩
noncomputable def s__law_fields : Str := ⟨#[95, 108, 97, 119, 95, 102, 105, 101, 108, 100, 115]⟩
noncomputable def s__law_kinds : Str := ⟨#[95, 108, 97, 119, 95, 107, 105, 110, 100, 115]⟩
noncomputable def s__law_octets : Str := ⟨#[95, 108, 97, 119, 95, 111, 99, 116, 101, 116, 115]⟩
noncomputable def s_Leaf : Str := ⟨#[76, 101, 97, 102]⟩
noncomputable def s_sort : Str := ⟨#[115, 111, 114, 116]⟩
noncomputable def s_inner : Str := ⟨#[105, 110, 110, 101, 114]⟩
noncomputable def s__law_leaf : Str := ⟨#[95, 108, 97, 119, 95, 108, 101, 97, 102]⟩
noncomputable def s__law_many : Str := ⟨#[95, 108, 97, 119, 95, 109, 97, 110, 121]⟩
noncomputable def s__law_piece : Str := ⟨#[95, 108, 97, 119, 95, 112, 105, 101, 99, 101]⟩
noncomputable def s_k : Str := ⟨#[107]⟩
noncomputable def s__law_number : Str := ⟨#[95, 108, 97, 119, 95, 110, 117, 109, 98, 101, 114]⟩
noncomputable def s_one : Str := ⟨#[111, 110, 101]⟩
noncomputable def s_script : Str := ⟨#[115, 99, 114, 105, 112, 116]⟩
noncomputable def s_due : Str := ⟨#[100, 117, 101]⟩
noncomputable def s_QmoduleQ : Str := ⟨#[60, 109, 111, 100, 117, 108, 101, 62]⟩
noncomputable def s_QclaimQcutQpy : Str := ⟨#[47, 99, 108, 97, 105, 109, 47, 99, 117, 116, 46, 112, 121]⟩
noncomputable def s___main__ : Str := ⟨#[95, 95, 109, 97, 105, 110, 95, 95]⟩
noncomputable def s___name__ : Str := ⟨#[95, 95, 110, 97, 109, 101, 95, 95]⟩
noncomputable def s_postkeepQerrors : Str := ⟨#[112, 111, 115, 116, 107, 101, 101, 112, 46, 101, 114, 114, 111, 114, 115]⟩
noncomputable def s___doc__ : Str := ⟨#[95, 95, 100, 111, 99, 95, 95]⟩
noncomputable def s___package__ : Str := ⟨#[95, 95, 112, 97, 99, 107, 97, 103, 101, 95, 95]⟩
noncomputable def s___loader__ : Str := ⟨#[95, 95, 108, 111, 97, 100, 101, 114, 95, 95]⟩
noncomputable def s___spec__ : Str := ⟨#[95, 95, 115, 112, 101, 99, 95, 95]⟩
noncomputable def s___annotations__ : Str := ⟨#[95, 95, 97, 110, 110, 111, 116, 97, 116, 105, 111, 110, 115, 95, 95]⟩
noncomputable def s___builtins__ : Str := ⟨#[95, 95, 98, 117, 105, 108, 116, 105, 110, 115, 95, 95]⟩
noncomputable def s___file__ : Str := ⟨#[95, 95, 102, 105, 108, 101, 95, 95]⟩
noncomputable def s___cached__ : Str := ⟨#[95, 95, 99, 97, 99, 104, 101, 100, 95, 95]⟩
noncomputable def s_postkeepQbase64 : Str := ⟨#[112, 111, 115, 116, 107, 101, 101, 112, 46, 98, 97, 115, 101, 54, 52]⟩
noncomputable def s_typeQ__subclasses__QExceptionQ : Str := ⟨#[116, 121, 112, 101, 46, 95, 95, 115, 117, 98, 99, 108, 97, 115, 115, 101, 115, 95, 95, 46, 69, 120, 99, 101, 112, 116, 105, 111, 110, 46, 48]⟩
noncomputable def s_typeQ__subclasses__QExceptionQZ1 : Str := ⟨#[116, 121, 112, 101, 46, 95, 95, 115, 117, 98, 99, 108, 97, 115, 115, 101, 115, 95, 95, 46, 69, 120, 99, 101, 112, 116, 105, 111, 110, 46, 110]⟩
noncomputable def s_PostError : Str := ⟨#[80, 111, 115, 116, 69, 114, 114, 111, 114]⟩
noncomputable def s___module__ : Str := ⟨#[95, 95, 109, 111, 100, 117, 108, 101, 95, 95]⟩
noncomputable def s___qualname__ : Str := ⟨#[95, 95, 113, 117, 97, 108, 110, 97, 109, 101, 95, 95]⟩
noncomputable def s___firstlineno__ : Str := ⟨#[95, 95, 102, 105, 114, 115, 116, 108, 105, 110, 101, 110, 111, 95, 95]⟩
noncomputable def s___static_attributes__ : Str := ⟨#[95, 95, 115, 116, 97, 116, 105, 99, 95, 97, 116, 116, 114, 105, 98, 117, 116, 101, 115, 95, 95]⟩
noncomputable def s_PostErrorQ__init__ : Str := ⟨#[80, 111, 115, 116, 69, 114, 114, 111, 114, 46, 95, 95, 105, 110, 105, 116, 95, 95]⟩
noncomputable def s_PostErrorQtold : Str := ⟨#[80, 111, 115, 116, 69, 114, 114, 111, 114, 46, 116, 111, 108, 100]⟩
noncomputable def s___weakref__ : Str := ⟨#[95, 95, 119, 101, 97, 107, 114, 101, 102, 95, 95]⟩
noncomputable def s_postkeepQheaders : Str := ⟨#[112, 111, 115, 116, 107, 101, 101, 112, 46, 104, 101, 97, 100, 101, 114, 115]⟩
noncomputable def s_postkeepQoctets : Str := ⟨#[112, 111, 115, 116, 107, 101, 101, 112, 46, 111, 99, 116, 101, 116, 115]⟩
noncomputable def s_FieldQ__init__ : Str := ⟨#[70, 105, 101, 108, 100, 46, 95, 95, 105, 110, 105, 116, 95, 95]⟩
noncomputable def s_FieldQword : Str := ⟨#[70, 105, 101, 108, 100, 46, 119, 111, 114, 100]⟩
noncomputable def s_FieldQtold : Str := ⟨#[70, 105, 101, 108, 100, 46, 116, 111, 108, 100]⟩
noncomputable def s___dict__ : Str := ⟨#[95, 95, 100, 105, 99, 116, 95, 95]⟩
noncomputable def s_postkeepQparams : Str := ⟨#[112, 111, 115, 116, 107, 101, 101, 112, 46, 112, 97, 114, 97, 109, 115]⟩
noncomputable def s_usQascii : Str := ⟨#[117, 115, 45, 97, 115, 99, 105, 105]⟩
noncomputable def s_LATIN : Str := ⟨#[76, 65, 84, 73, 78]⟩
noncomputable def s_isoQ8859Q1 : Str := ⟨#[105, 115, 111, 45, 56, 56, 53, 57, 45, 49]⟩
noncomputable def s_utfQ8 : Str := ⟨#[117, 116, 102, 45, 56]⟩
noncomputable def s_postkeepQcharsets : Str := ⟨#[112, 111, 115, 116, 107, 101, 101, 112, 46, 99, 104, 97, 114, 115, 101, 116, 115]⟩
noncomputable def s_postkeepQtokens : Str := ⟨#[112, 111, 115, 116, 107, 101, 101, 112, 46, 116, 111, 107, 101, 110, 115]⟩
noncomputable def s_KindQ__init__ : Str := ⟨#[75, 105, 110, 100, 46, 95, 95, 105, 110, 105, 116, 95, 95]⟩
noncomputable def s_KindQtold : Str := ⟨#[75, 105, 110, 100, 46, 116, 111, 108, 100]⟩
noncomputable def s_KindQis_multi : Str := ⟨#[75, 105, 110, 100, 46, 105, 115, 95, 109, 117, 108, 116, 105]⟩
noncomputable def s_KindQis_letter : Str := ⟨#[75, 105, 110, 100, 46, 105, 115, 95, 108, 101, 116, 116, 101, 114]⟩
noncomputable def s_KindQis_text : Str := ⟨#[75, 105, 110, 100, 46, 105, 115, 95, 116, 101, 120, 116]⟩
noncomputable def s_postkeepQquoted : Str := ⟨#[112, 111, 115, 116, 107, 101, 101, 112, 46, 113, 117, 111, 116, 101, 100]⟩
noncomputable def s_is_plain : Str := ⟨#[105, 115, 95, 112, 108, 97, 105, 110]⟩
noncomputable def s_7bit : Str := ⟨#[55, 98, 105, 116]⟩
noncomputable def s_postkeepQbuild : Str := ⟨#[112, 111, 115, 116, 107, 101, 101, 112, 46, 98, 117, 105, 108, 100]⟩
noncomputable def s_Q_part : Str := ⟨#[61, 95, 112, 97, 114, 116]⟩
noncomputable def s_contentQtype : Str := ⟨#[99, 111, 110, 116, 101, 110, 116, 45, 116, 121, 112, 101]⟩
noncomputable def s_contentQtransferQencoding : Str := ⟨#[99, 111, 110, 116, 101, 110, 116, 45, 116, 114, 97, 110, 115, 102, 101, 114, 45, 101, 110, 99, 111, 100, 105, 110, 103]⟩
noncomputable def s_mimeQversion : Str := ⟨#[109, 105, 109, 101, 45, 118, 101, 114, 115, 105, 111, 110]⟩
noncomputable def s_LeafQ__init__ : Str := ⟨#[76, 101, 97, 102, 46, 95, 95, 105, 110, 105, 116, 95, 95]⟩
noncomputable def s_LeafQtold : Str := ⟨#[76, 101, 97, 102, 46, 116, 111, 108, 100]⟩
noncomputable def s_LeafQdepth : Str := ⟨#[76, 101, 97, 102, 46, 100, 101, 112, 116, 104]⟩
noncomputable def s_ManyQ__init__ : Str := ⟨#[77, 97, 110, 121, 46, 95, 95, 105, 110, 105, 116, 95, 95]⟩
noncomputable def s_ManyQtold : Str := ⟨#[77, 97, 110, 121, 46, 116, 111, 108, 100]⟩
noncomputable def s_ManyQdepth : Str := ⟨#[77, 97, 110, 121, 46, 100, 101, 112, 116, 104]⟩
noncomputable def s_Letter822Q__init__ : Str := ⟨#[76, 101, 116, 116, 101, 114, 56, 50, 50, 46, 95, 95, 105, 110, 105, 116, 95, 95]⟩
noncomputable def s_Letter822Qtold : Str := ⟨#[76, 101, 116, 116, 101, 114, 56, 50, 50, 46, 116, 111, 108, 100]⟩
noncomputable def s_Letter822Qdepth : Str := ⟨#[76, 101, 116, 116, 101, 114, 56, 50, 50, 46, 100, 101, 112, 116, 104]⟩
noncomputable def s_law_nz0319_01 : Str := ⟨#[108, 97, 119, 95, 110, 122, 48, 51, 49, 57, 95, 48, 49]⟩
noncomputable def s_plain : Str := ⟨#[112, 108, 97, 105, 110]⟩
noncomputable def s_image : Str := ⟨#[105, 109, 97, 103, 101]⟩
noncomputable def s_png : Str := ⟨#[112, 110, 103]⟩
noncomputable def s_a : Str := ⟨#[97]⟩
noncomputable def s_b : Str := ⟨#[98]⟩
noncomputable def s_x : Str := ⟨#[120]⟩
noncomputable def s_n : Str := ⟨#[110]⟩
noncomputable def s_aQb : Str := ⟨#[97, 32, 98]⟩
noncomputable def s_application : Str := ⟨#[97, 112, 112, 108, 105, 99, 97, 116, 105, 111, 110]⟩
noncomputable def s_y : Str := ⟨#[121]⟩
noncomputable def s_law : Str := ⟨#[108, 97, 119]⟩
noncomputable def o_43 (P : Params) : Obj := ⟨(.type "tuple"), none, (.seq #[] 0), #[]⟩
noncomputable def o_44 (P : Params) : Obj := ⟨.none, none, (.fields #[]), #[]⟩
noncomputable def o_45 (P : Params) : Obj := ⟨(.type "code"), none, (.fields #[(.str s_QmoduleQ 182), (.str s_QmoduleQ 183), (.str s_QclaimQcutQpy 184), (.int 1 0), (.int 0 0), (.int 0 0), (.int 0 0), (.int 0 0), (.ref 11), (.bool false), (.int 181 0), (.ref 12), .none, .none, .none, .none, (.int 185 0), (.int 1 0), (.str s_QclaimQcutQpy 186)]), #[]⟩
noncomputable def o_46 (P : Params) : Obj := ⟨(.type "frame"), none, .plain, #[(some (.ref 13)), (some (.ref 3)), (some (.ref 3)), none, (some (.str s___main__ 164)), none, (some (.ref 0))]⟩
noncomputable def o_49 (P : Params) : Obj := ⟨(.type "dict"), none, (.dict #[K0 P s___name__ 165 (.str s_postkeepQerrors 233), K0 P s___doc__ 166 .none, K0 P s___package__ 167 .none, K0 P s___loader__ 168 (.builtin "__main__.__loader__#opaque"), K0 P s___spec__ 169 .none, K0 P s___annotations__ 170 (.ref 6), K0 P s___builtins__ 171 (.ref 4), K0 P s___file__ 173 (.str s_QclaimQcutQpy 172), K0 P s___cached__ 174 .none, K0 P s_SIGNS 190 (.bytes #[65, 66, 67, 68, 69, 70, 71, 72, 73, 74, 75, 76, 77, 78, 79, 80, 81, 82, 83, 84, 85, 86, 87, 88, 89, 90, 97, 98, 99, 100, 101, 102, 103, 104, 105, 106, 107, 108, 109, 110, 111, 112, 113, 114, 115, 116, 117, 118, 119, 120, 121, 122, 48, 49, 50, 51, 52, 53, 54, 55, 56, 57, 43, 47] 189), K0 P s_PAD 192 (.int 61 191), K0 P s_LINE_END 194 (.bytes #[13, 10] 193), K0 P s_group_codes 200 (.ref 19), K0 P s_part_encoded 210 (.ref 26), K0 P s_one_line 217 (.ref 33), K0 P s_in_lines 223 (.ref 38), K0 P s_encoded 232 (.ref 46)] 17), #[]⟩
noncomputable def o_50 (P : Params) : Obj := ⟨.none, none, (.fields #[(.int 5 0), (.int 0 0), (.ref 18), (.int 12 0), (.int 0 0), (.ref 25), (.int 17 0), (.int 0 0), (.ref 32), (.int 19 0), (.int 0 0), (.ref 37), (.int 23 0), (.int 0 0), (.ref 45)]), #[]⟩
noncomputable def o_51 (P : Params) : Obj := ⟨(.type "tuple"), none, (.seq #[] 0), #[]⟩
noncomputable def o_52 (P : Params) : Obj := ⟨.none, none, (.fields #[]), #[]⟩
noncomputable def o_53 (P : Params) : Obj := ⟨.none, none, (.func ⟨s_group_codes, s_group_codes, (sArgs (stm 4)), (.stmts (sBody (stm 4))), (sScope (stm 4)), 0, [], .none, .none, .none, .none, none, .none, .none, 0⟩), #[]⟩
noncomputable def o_54 (P : Params) : Obj := ⟨(.type "code"), none, (.fields #[(.str s_group_codes 195), (.str s_group_codes 196), (.str s_QclaimQcutQpy 197), (.int 5 0), (.int 2 0), (.int 0 0), (.int 0 0), (.int 3 0), (.ref 15), (.bool true), (.int 181 0), (.ref 16), .none, .none, .none, (.ref 17), (.int 198 0), (.int 5 0), (.str s_QclaimQcutQpy 199)]), #[]⟩
noncomputable def o_55 (P : Params) : Obj := ⟨(.type "function"), none, (.func ⟨s_group_codes, s_group_codes, (sArgs (stm 4)), (.stmts (sBody (stm 4))), (sScope (stm 4)), 3, [], .none, .none, .none, (.str s_postkeepQbase64 187), none, (.ref 18), .none, 0⟩), #[]⟩
noncomputable def o_56 (P : Params) : Obj := ⟨(.type "tuple"), none, (.seq #[] 0), #[]⟩
noncomputable def o_57 (P : Params) : Obj := ⟨.none, none, (.fields #[]), #[]⟩
noncomputable def o_58 (P : Params) : Obj := ⟨(.type "tuple"), none, (.seq #[(.str s_octets 204), (.str s_alphabet 205), (.str s_codes 206), (.str s_begin 207)] 0), #[]⟩
noncomputable def o_59 (P : Params) : Obj := ⟨(.type "tuple"), none, (.seq #[] 0), #[]⟩
noncomputable def o_60 (P : Params) : Obj := ⟨.none, none, (.func ⟨s_part_encoded, s_part_encoded, (sArgs (stm 5)), (.stmts (sBody (stm 5))), (sScope (stm 5)), 0, [], .none, .none, .none, .none, none, .none, .none, 0⟩), #[]⟩
noncomputable def o_61 (P : Params) : Obj := ⟨(.type "code"), none, (.fields #[(.str s_part_encoded 201), (.str s_part_encoded 202), (.str s_QclaimQcutQpy 203), (.int 12 0), (.int 2 0), (.int 0 0), (.int 0 0), (.int 3 0), (.ref 20), (.bool true), (.int 181 0), (.ref 21), .none, (.ref 22), (.ref 23), (.ref 24), (.int 208 0), (.int 12 0), (.str s_QclaimQcutQpy 209)]), #[]⟩
noncomputable def o_62 (P : Params) : Obj := ⟨(.type "function"), none, (.func ⟨s_part_encoded, s_part_encoded, (sArgs (stm 5)), (.stmts (sBody (stm 5))), (sScope (stm 5)), 3, [], .none, .none, .none, (.str s_postkeepQbase64 187), none, (.ref 25), .none, 0⟩), #[]⟩
noncomputable def o_63 (P : Params) : Obj := ⟨(.type "tuple"), none, (.seq #[] 0), #[]⟩
noncomputable def o_64 (P : Params) : Obj := ⟨.none, none, (.fields #[]), #[]⟩
noncomputable def o_65 (P : Params) : Obj := ⟨(.type "tuple"), none, (.seq #[(.str s_octets 214)] 0), #[]⟩
noncomputable def o_66 (P : Params) : Obj := ⟨(.type "tuple"), none, (.seq #[] 0), #[]⟩
noncomputable def o_67 (P : Params) : Obj := ⟨.none, none, (.func ⟨s_one_line, s_one_line, (sArgs (stm 6)), (.stmts (sBody (stm 6))), (sScope (stm 6)), 0, [], .none, .none, .none, .none, none, .none, .none, 0⟩), #[]⟩
noncomputable def o_68 (P : Params) : Obj := ⟨(.type "code"), none, (.fields #[(.str s_one_line 211), (.str s_one_line 212), (.str s_QclaimQcutQpy 213), (.int 17 0), (.int 1 0), (.int 0 0), (.int 0 0), (.int 3 0), (.ref 27), (.bool true), (.int 181 0), (.ref 28), .none, (.ref 29), (.ref 30), (.ref 31), (.int 215 0), (.int 17 0), (.str s_QclaimQcutQpy 216)]), #[]⟩
noncomputable def o_69 (P : Params) : Obj := ⟨(.type "function"), none, (.func ⟨s_one_line, s_one_line, (sArgs (stm 6)), (.stmts (sBody (stm 6))), (sScope (stm 6)), 3, [], .none, .none, .none, (.str s_postkeepQbase64 187), none, (.ref 32), .none, 0⟩), #[]⟩
noncomputable def o_70 (P : Params) : Obj := ⟨(.type "tuple"), none, (.seq #[] 0), #[]⟩
noncomputable def o_71 (P : Params) : Obj := ⟨.none, none, (.fields #[]), #[]⟩
noncomputable def o_72 (P : Params) : Obj := ⟨.none, none, (.func ⟨s_in_lines, s_in_lines, (sArgs (stm 7)), (.stmts (sBody (stm 7))), (sScope (stm 7)), 0, [], .none, .none, .none, .none, none, .none, .none, 0⟩), #[]⟩
noncomputable def o_73 (P : Params) : Obj := ⟨(.type "code"), none, (.fields #[(.str s_in_lines 218), (.str s_in_lines 219), (.str s_QclaimQcutQpy 220), (.int 19 0), (.int 2 0), (.int 0 0), (.int 0 0), (.int 3 0), (.ref 34), (.bool true), (.int 181 0), (.ref 35), .none, .none, .none, (.ref 36), (.int 221 0), (.int 19 0), (.str s_QclaimQcutQpy 222)]), #[]⟩
noncomputable def o_74 (P : Params) : Obj := ⟨(.type "function"), none, (.func ⟨s_in_lines, s_in_lines, (sArgs (stm 7)), (.stmts (sBody (stm 7))), (sScope (stm 7)), 3, [], .none, .none, .none, (.str s_postkeepQbase64 187), none, (.ref 37), .none, 0⟩), #[]⟩
noncomputable def o_75 (P : Params) : Obj := ⟨(.type "tuple"), none, (.seq #[(.int 76 224)] 0), #[]⟩
noncomputable def o_76 (P : Params) : Obj := ⟨(.type "tuple"), none, (.seq #[] 0), #[]⟩
noncomputable def o_77 (P : Params) : Obj := ⟨.none, none, (.fields #[]), #[]⟩
noncomputable def o_78 (P : Params) : Obj := ⟨(.type "tuple"), none, (.seq #[(.str s_octets 228), (.str s_width 229)] 0), #[]⟩
noncomputable def o_79 (P : Params) : Obj := ⟨(.type "tuple"), none, (.seq #[] 0), #[]⟩
noncomputable def o_80 (P : Params) : Obj := ⟨.none, none, (.func ⟨s_encoded, s_encoded, (sArgs (stm 8)), (.stmts (sBody (stm 8))), (sScope (stm 8)), 0, [], .none, .none, .none, .none, none, .none, .none, 0⟩), #[]⟩
noncomputable def o_81 (P : Params) : Obj := ⟨(.type "code"), none, (.fields #[(.str s_encoded 225), (.str s_encoded 226), (.str s_QclaimQcutQpy 227), (.int 23 0), (.int 2 0), (.int 0 0), (.int 0 0), (.int 3 0), (.ref 40), (.bool true), (.int 181 0), (.ref 41), .none, (.ref 42), (.ref 43), (.ref 44), (.int 230 0), (.int 23 0), (.str s_QclaimQcutQpy 231)]), #[]⟩
noncomputable def o_82 (P : Params) : Obj := ⟨(.type "function"), none, (.func ⟨s_encoded, s_encoded, (sArgs (stm 8)), (.stmts (sBody (stm 8))), (sScope (stm 8)), 3, [], (.ref 39), .none, .none, (.str s_postkeepQbase64 187), none, (.ref 45), .none, 0⟩), #[]⟩
noncomputable def o_83 (P : Params) : Obj := ⟨.none, none, (.dict #[K0 P s_typeQ__subclasses__QExceptionQ 271 (.int 71 0), K0 P s_typeQ__subclasses__QExceptionQZ1 272 (.int 1 0)] 2), #[]⟩
noncomputable def o_84 (P : Params) : Obj := ⟨(.type "dict"), none, (.dict #[K0 P s___name__ 165 (.str s_postkeepQerrors 233), K0 P s___doc__ 166 .none, K0 P s___package__ 167 .none, K0 P s___loader__ 168 (.builtin "__main__.__loader__#opaque"), K0 P s___spec__ 169 .none, K0 P s___annotations__ 170 (.ref 6), K0 P s___builtins__ 171 (.ref 4), K0 P s___file__ 173 (.str s_QclaimQcutQpy 172), K0 P s___cached__ 174 .none, K0 P s_SIGNS 190 (.bytes #[65, 66, 67, 68, 69, 70, 71, 72, 73, 74, 75, 76, 77, 78, 79, 80, 81, 82, 83, 84, 85, 86, 87, 88, 89, 90, 97, 98, 99, 100, 101, 102, 103, 104, 105, 106, 107, 108, 109, 110, 111, 112, 113, 114, 115, 116, 117, 118, 119, 120, 121, 122, 48, 49, 50, 51, 52, 53, 54, 55, 56, 57, 43, 47] 189), K0 P s_PAD 192 (.int 61 191), K0 P s_LINE_END 194 (.bytes #[13, 10] 193), K0 P s_group_codes 200 (.ref 19), K0 P s_part_encoded 210 (.ref 26), K0 P s_one_line 217 (.ref 33), K0 P s_in_lines 223 (.ref 38), K0 P s_encoded 232 (.ref 46), K0 P s_PostError 274 (.ref 71)] 18), #[]⟩
noncomputable def o_85 (P : Params) : Obj := ⟨.none, none, (.fields #[(.int 5 0), (.int 0 0), (.ref 18), (.int 12 0), (.int 0 0), (.ref 25), (.int 17 0), (.int 0 0), (.ref 32), (.int 19 0), (.int 0 0), (.ref 37), (.int 23 0), (.int 0 0), (.ref 45), (.int 26 0), (.int 0 0), (.ref 52)]), #[]⟩
noncomputable def o_86 (P : Params) : Obj := ⟨(.type "tuple"), none, (.seq #[(.type "Exception")] 0), #[]⟩
noncomputable def o_87 (P : Params) : Obj := ⟨(.type "builtin_function_or_method"), none, (.fields #[(.builtin "type.__prepare__"), (.type "type")]), #[]⟩
noncomputable def o_88 (P : Params) : Obj := ⟨(.type "dict"), none, (.dict #[K0 P s___module__ 242 (.str s_postkeepQerrors 233), K0 P s___qualname__ 244 (.str s_PostError 243), K0 P s___firstlineno__ 246 (.int 26 245), K0 P s___init__ 257 (.ref 61), K0 P s_told 264 (.ref 68), K0 P s___static_attributes__ 267 (.ref 69)] 6), #[]⟩
noncomputable def o_89 (P : Params) : Obj := ⟨(.type "tuple"), none, (.seq #[] 0), #[]⟩
noncomputable def o_90 (P : Params) : Obj := ⟨.none, none, (.fields #[(.int 28 0), (.int 4 0), (.ref 60), (.int 33 0), (.int 4 0), (.ref 67)]), #[]⟩
noncomputable def o_91 (P : Params) : Obj := ⟨(.type "code"), none, (.fields #[(.str s_PostError 237), (.str s_PostError 238), (.str s_QclaimQcutQpy 239), (.int 26 0), (.int 0 0), (.int 0 0), (.int 0 0), (.int 0 0), (.ref 50), (.bool false), (.int 181 0), (.ref 51), .none, .none, .none, .none, (.int 240 0), (.int 26 0), (.str s_QclaimQcutQpy 241)]), #[]⟩
noncomputable def o_92 (P : Params) : Obj := ⟨(.type "frame"), none, .plain, #[(some (.ref 52)), (some (.ref 3)), (some (.ref 49)), none, (some (.str s_postkeepQerrors 233)), none, (some (.ref 0))]⟩
noncomputable def o_93 (P : Params) : Obj := ⟨(.type "tuple"), none, (.seq #[(.int (-1) 248)] 0), #[]⟩
noncomputable def o_94 (P : Params) : Obj := ⟨(.type "tuple"), none, (.seq #[] 0), #[]⟩
noncomputable def o_95 (P : Params) : Obj := ⟨.none, none, (.fields #[]), #[]⟩
noncomputable def o_96 (P : Params) : Obj := ⟨(.type "tuple"), none, (.seq #[(.str s_self 252), (.str s_what 253), (.str s_at 254)] 0), #[]⟩
noncomputable def o_97 (P : Params) : Obj := ⟨(.type "tuple"), none, (.seq #[] 0), #[]⟩
noncomputable def o_98 (P : Params) : Obj := ⟨.none, none, (.func ⟨s___init__, s_PostErrorQ__init__, (sArgs (mth 10 0)), (.stmts (sBody (mth 10 0))), (sScope (mth 10 0)), 0, [], .none, .none, .none, .none, none, .none, .none, 0⟩), #[]⟩
noncomputable def o_99 (P : Params) : Obj := ⟨(.type "code"), none, (.fields #[(.str s___init__ 249), (.str s_PostErrorQ__init__ 250), (.str s_QclaimQcutQpy 251), (.int 28 0), (.int 3 0), (.int 0 0), (.int 0 0), (.int 3 0), (.ref 55), (.bool true), (.int 181 0), (.ref 56), .none, (.ref 57), (.ref 58), (.ref 59), (.int 255 0), (.int 28 0), (.str s_QclaimQcutQpy 256)]), #[]⟩
noncomputable def o_100 (P : Params) : Obj := ⟨(.type "function"), none, (.func ⟨s___init__, s_PostErrorQ__init__, (sArgs (mth 10 0)), (.stmts (sBody (mth 10 0))), (sScope (mth 10 0)), 3, [], (.ref 54), .none, .none, (.str s_postkeepQerrors 233), none, (.ref 60), .none, 0⟩), #[]⟩
noncomputable def o_101 (P : Params) : Obj := ⟨(.type "tuple"), none, (.seq #[] 0), #[]⟩
noncomputable def o_102 (P : Params) : Obj := ⟨.none, none, (.fields #[]), #[]⟩
noncomputable def o_103 (P : Params) : Obj := ⟨(.type "tuple"), none, (.seq #[(.str s_self 261)] 0), #[]⟩
noncomputable def o_104 (P : Params) : Obj := ⟨(.type "tuple"), none, (.seq #[] 0), #[]⟩
noncomputable def o_105 (P : Params) : Obj := ⟨.none, none, (.func ⟨s_told, s_PostErrorQtold, (sArgs (mth 10 1)), (.stmts (sBody (mth 10 1))), (sScope (mth 10 1)), 0, [], .none, .none, .none, .none, none, .none, .none, 0⟩), #[]⟩
noncomputable def o_106 (P : Params) : Obj := ⟨(.type "code"), none, (.fields #[(.str s_told 258), (.str s_PostErrorQtold 259), (.str s_QclaimQcutQpy 260), (.int 33 0), (.int 1 0), (.int 0 0), (.int 0 0), (.int 3 0), (.ref 62), (.bool true), (.int 181 0), (.ref 63), .none, (.ref 64), (.ref 65), (.ref 66), (.int 262 0), (.int 33 0), (.str s_QclaimQcutQpy 263)]), #[]⟩
noncomputable def o_107 (P : Params) : Obj := ⟨(.type "function"), none, (.func ⟨s_told, s_PostErrorQtold, (sArgs (mth 10 1)), (.stmts (sBody (mth 10 1))), (sScope (mth 10 1)), 3, [], .none, .none, .none, (.str s_postkeepQerrors 233), none, (.ref 67), .none, 0⟩), #[]⟩
noncomputable def o_108 (P : Params) : Obj := ⟨(.type "tuple"), none, (.seq #[(.str s_at 265), (.str s_what 266)] 0), #[]⟩
noncomputable def o_109 (P : Params) : Obj := ⟨(.type "dict"), none, (.dict #[K0 P s___module__ 242 (.str s_postkeepQerrors 233), K0 P s___firstlineno__ 246 (.int 26 245), K0 P s___init__ 257 (.ref 61), K0 P s_told 264 (.ref 68), K0 P s___static_attributes__ 267 (.ref 69), K0 P s___weakref__ 269 (.ref 72), K0 P s___doc__ 270 .none] 3), #[]⟩
noncomputable def o_110 (P : Params) : Obj := ⟨(.type "type"), none, (.cls ⟨s_PostError, [(.type "Exception")], [(.ref 71), (.type "Exception"), (.type "BaseException"), (.type "object")], 70, s_PostError, true, [], [], false, none, false⟩), #[(some (.ref 47)), none, (some (.str s_PostError 235)), (some (.str s_PostError 243)), (some (.builtin "Exception.__new__")), (some (.bool true))]⟩
noncomputable def o_111 (P : Params) : Obj := ⟨(.type "getset_descriptor"), none, (.fields #[(.str s___weakref__ 268), (.ref 71), (.builtin "ExceptionGroup.__weakref__"), .none]), #[]⟩
noncomputable def o_112 (P : Params) : Obj := ⟨(.type "super"), none, (.fields #[(.ref 71), (.ref 71), (.ref 71)]), #[]⟩
noncomputable def o_113 (P : Params) : Obj := ⟨(.type "builtin_function_or_method"), none, (.fields #[(.builtin "object.__init_subclass__"), (.ref 71)]), #[]⟩
noncomputable def o_114 (P : Params) : Obj := ⟨(.type "dict"), none, (.dict #[K0 P s___name__ 165 (.str s_postkeepQerrors 233), K0 P s___doc__ 166 .none, K0 P s___package__ 167 .none, K0 P s___loader__ 168 (.builtin "__main__.__loader__#opaque"), K0 P s___spec__ 169 .none, K0 P s___annotations__ 170 (.ref 6), K0 P s___builtins__ 171 (.ref 4), K0 P s___file__ 173 (.str s_QclaimQcutQpy 172), K0 P s___cached__ 174 .none, K0 P s_SIGNS 190 (.bytes #[65, 66, 67, 68, 69, 70, 71, 72, 73, 74, 75, 76, 77, 78, 79, 80, 81, 82, 83, 84, 85, 86, 87, 88, 89, 90, 97, 98, 99, 100, 101, 102, 103, 104, 105, 106, 107, 108, 109, 110, 111, 112, 113, 114, 115, 116, 117, 118, 119, 120, 121, 122, 48, 49, 50, 51, 52, 53, 54, 55, 56, 57, 43, 47] 189), K0 P s_PAD 192 (.int 61 191), K0 P s_LINE_END 194 (.bytes #[13, 10] 193), K0 P s_group_codes 200 (.ref 19), K0 P s_part_encoded 210 (.ref 26), K0 P s_one_line 217 (.ref 33), K0 P s_in_lines 223 (.ref 38), K0 P s_encoded 232 (.ref 46), K0 P s_PostError 274 (.ref 71), K0 P s_WordFault 290 (.ref 84)] 19), #[]⟩
noncomputable def o_115 (P : Params) : Obj := ⟨.none, none, (.fields #[(.int 5 0), (.int 0 0), (.ref 18), (.int 12 0), (.int 0 0), (.ref 25), (.int 17 0), (.int 0 0), (.ref 32), (.int 19 0), (.int 0 0), (.ref 37), (.int 23 0), (.int 0 0), (.ref 45), (.int 26 0), (.int 0 0), (.ref 52), (.int 35 0), (.int 0 0), (.ref 80)]), #[]⟩
noncomputable def o_116 (P : Params) : Obj := ⟨(.type "type"), none, (.cls ⟨s_PostError, [(.type "Exception")], [(.ref 71), (.type "Exception"), (.type "BaseException"), (.type "object")], 70, s_PostError, true, [], [(.ref 84)], false, none, false⟩), #[(some (.ref 47)), none, (some (.str s_PostError 235)), (some (.str s_PostError 243)), (some (.builtin "Exception.__new__")), (some (.bool true))]⟩
noncomputable def o_117 (P : Params) : Obj := ⟨(.type "tuple"), none, (.seq #[(.ref 71)] 0), #[]⟩
noncomputable def o_118 (P : Params) : Obj := ⟨(.type "builtin_function_or_method"), none, (.fields #[(.builtin "type.__prepare__"), (.type "type")]), #[]⟩
noncomputable def o_119 (P : Params) : Obj := ⟨(.type "dict"), none, (.dict #[K0 P s___module__ 282 (.str s_postkeepQerrors 233), K0 P s___qualname__ 284 (.str s_WordFault 283), K0 P s___firstlineno__ 286 (.int 35 285), K0 P s___static_attributes__ 287 (.ref 82)] 4), #[]⟩
noncomputable def o_120 (P : Params) : Obj := ⟨(.type "tuple"), none, (.seq #[] 0), #[]⟩
noncomputable def o_121 (P : Params) : Obj := ⟨.none, none, (.fields #[]), #[]⟩
noncomputable def o_122 (P : Params) : Obj := ⟨(.type "code"), none, (.fields #[(.str s_WordFault 277), (.str s_WordFault 278), (.str s_QclaimQcutQpy 279), (.int 35 0), (.int 0 0), (.int 0 0), (.int 0 0), (.int 0 0), (.ref 78), (.bool false), (.int 181 0), (.ref 79), .none, .none, .none, .none, (.int 280 0), (.int 35 0), (.str s_QclaimQcutQpy 281)]), #[]⟩
noncomputable def o_123 (P : Params) : Obj := ⟨(.type "frame"), none, .plain, #[(some (.ref 80)), (some (.ref 3)), (some (.ref 77)), none, (some (.str s_postkeepQerrors 233)), none, (some (.ref 0))]⟩
noncomputable def o_124 (P : Params) : Obj := ⟨(.type "tuple"), none, (.seq #[] 0), #[]⟩
noncomputable def o_125 (P : Params) : Obj := ⟨(.type "dict"), none, (.dict #[K0 P s___module__ 282 (.str s_postkeepQerrors 233), K0 P s___firstlineno__ 286 (.int 35 285), K0 P s___static_attributes__ 287 (.ref 82), K0 P s___doc__ 288 .none] 2), #[]⟩
noncomputable def o_126 (P : Params) : Obj := ⟨(.type "type"), none, (.cls ⟨s_WordFault, [(.ref 71)], [(.ref 84), (.ref 71), (.type "Exception"), (.type "BaseException"), (.type "object")], 83, s_WordFault, true, [], [], false, none, false⟩), #[(some (.ref 75)), none, (some (.str s_WordFault 275)), (some (.str s_WordFault 283)), (some (.builtin "Exception.__new__")), (some (.bool true))]⟩
noncomputable def o_127 (P : Params) : Obj := ⟨(.type "super"), none, (.fields #[(.ref 84), (.ref 84), (.ref 84)]), #[]⟩
noncomputable def o_128 (P : Params) : Obj := ⟨(.type "builtin_function_or_method"), none, (.fields #[(.builtin "object.__init_subclass__"), (.ref 84)]), #[]⟩
noncomputable def o_129 (P : Params) : Obj := ⟨(.type "dict"), none, (.dict #[K0 P s___name__ 165 (.str s_postkeepQheaders 343), K0 P s___doc__ 166 .none, K0 P s___package__ 167 .none, K0 P s___loader__ 168 (.builtin "__main__.__loader__#opaque"), K0 P s___spec__ 169 .none, K0 P s___annotations__ 170 (.ref 6), K0 P s___builtins__ 171 (.ref 4), K0 P s___file__ 173 (.str s_QclaimQcutQpy 172), K0 P s___cached__ 174 .none, K0 P s_SIGNS 190 (.bytes #[65, 66, 67, 68, 69, 70, 71, 72, 73, 74, 75, 76, 77, 78, 79, 80, 81, 82, 83, 84, 85, 86, 87, 88, 89, 90, 97, 98, 99, 100, 101, 102, 103, 104, 105, 106, 107, 108, 109, 110, 111, 112, 113, 114, 115, 116, 117, 118, 119, 120, 121, 122, 48, 49, 50, 51, 52, 53, 54, 55, 56, 57, 43, 47] 189), K0 P s_PAD 192 (.int 61 191), K0 P s_LINE_END 194 (.bytes #[13, 10] 193), K0 P s_group_codes 200 (.ref 19), K0 P s_part_encoded 210 (.ref 26), K0 P s_one_line 217 (.ref 33), K0 P s_in_lines 223 (.ref 38), K0 P s_encoded 232 (.ref 46), K0 P s_PostError 274 (.ref 71), K0 P s_WordFault 290 (.ref 84), K0 P s_MimeFault 306 (.ref 96), K0 P s_CRLF 310 (.bytes #[13, 10] 309), K0 P s_RETURN 312 (.int 13 311), K0 P s_lower_code 319 (.ref 105), K0 P s_lower_text 325 (.ref 110), K0 P s_line_spans 342 (.ref 118), K0 P s_WHITE 347 (.ref 119)] 26), #[]⟩
noncomputable def o_130 (P : Params) : Obj := ⟨.none, none, (.fields #[(.int 5 0), (.int 0 0), (.ref 18), (.int 12 0), (.int 0 0), (.ref 25), (.int 17 0), (.int 0 0), (.ref 32), (.int 19 0), (.int 0 0), (.ref 37), (.int 23 0), (.int 0 0), (.ref 45), (.int 26 0), (.int 0 0), (.ref 52), (.int 35 0), (.int 0 0), (.ref 80), (.int 37 0), (.int 0 0), (.ref 92), (.int 42 0), (.int 0 0), (.ref 104), (.int 44 0), (.int 0 0), (.ref 109), (.int 46 0), (.int 0 0), (.ref 117)]), #[]⟩
noncomputable def o_131 (P : Params) : Obj := ⟨(.type "type"), none, (.cls ⟨s_PostError, [(.type "Exception")], [(.ref 71), (.type "Exception"), (.type "BaseException"), (.type "object")], 70, s_PostError, true, [], [(.ref 84), (.ref 96)], false, none, false⟩), #[(some (.ref 47)), none, (some (.str s_PostError 235)), (some (.str s_PostError 243)), (some (.builtin "Exception.__new__")), (some (.bool true))]⟩
noncomputable def o_132 (P : Params) : Obj := ⟨(.type "tuple"), none, (.seq #[(.ref 71)] 0), #[]⟩
noncomputable def o_133 (P : Params) : Obj := ⟨(.type "builtin_function_or_method"), none, (.fields #[(.builtin "type.__prepare__"), (.type "type")]), #[]⟩
noncomputable def o_134 (P : Params) : Obj := ⟨(.type "dict"), none, (.dict #[K0 P s___module__ 298 (.str s_postkeepQerrors 233), K0 P s___qualname__ 300 (.str s_MimeFault 299), K0 P s___firstlineno__ 302 (.int 37 301), K0 P s___static_attributes__ 303 (.ref 94)] 4), #[]⟩
noncomputable def o_135 (P : Params) : Obj := ⟨(.type "tuple"), none, (.seq #[] 0), #[]⟩
noncomputable def o_136 (P : Params) : Obj := ⟨.none, none, (.fields #[]), #[]⟩
noncomputable def o_137 (P : Params) : Obj := ⟨(.type "code"), none, (.fields #[(.str s_MimeFault 293), (.str s_MimeFault 294), (.str s_QclaimQcutQpy 295), (.int 37 0), (.int 0 0), (.int 0 0), (.int 0 0), (.int 0 0), (.ref 90), (.bool false), (.int 181 0), (.ref 91), .none, .none, .none, .none, (.int 296 0), (.int 37 0), (.str s_QclaimQcutQpy 297)]), #[]⟩
noncomputable def o_138 (P : Params) : Obj := ⟨(.type "frame"), none, .plain, #[(some (.ref 92)), (some (.ref 3)), (some (.ref 89)), none, (some (.str s_postkeepQerrors 233)), none, (some (.ref 0))]⟩
noncomputable def o_139 (P : Params) : Obj := ⟨(.type "tuple"), none, (.seq #[] 0), #[]⟩
noncomputable def o_140 (P : Params) : Obj := ⟨(.type "dict"), none, (.dict #[K0 P s___module__ 298 (.str s_postkeepQerrors 233), K0 P s___firstlineno__ 302 (.int 37 301), K0 P s___static_attributes__ 303 (.ref 94), K0 P s___doc__ 304 .none] 2), #[]⟩
noncomputable def o_141 (P : Params) : Obj := ⟨(.type "type"), none, (.cls ⟨s_MimeFault, [(.ref 71)], [(.ref 96), (.ref 71), (.type "Exception"), (.type "BaseException"), (.type "object")], 95, s_MimeFault, true, [], [], false, none, false⟩), #[(some (.ref 87)), none, (some (.str s_MimeFault 291)), (some (.str s_MimeFault 299)), (some (.builtin "Exception.__new__")), (some (.bool true))]⟩
noncomputable def o_142 (P : Params) : Obj := ⟨(.type "super"), none, (.fields #[(.ref 96), (.ref 96), (.ref 96)]), #[]⟩
noncomputable def o_143 (P : Params) : Obj := ⟨(.type "builtin_function_or_method"), none, (.fields #[(.builtin "object.__init_subclass__"), (.ref 96)]), #[]⟩
noncomputable def o_144 (P : Params) : Obj := ⟨(.type "tuple"), none, (.seq #[] 0), #[]⟩
noncomputable def o_145 (P : Params) : Obj := ⟨.none, none, (.fields #[]), #[]⟩
noncomputable def o_146 (P : Params) : Obj := ⟨(.type "tuple"), none, (.seq #[(.str s_code 316)] 0), #[]⟩
noncomputable def o_147 (P : Params) : Obj := ⟨(.type "tuple"), none, (.seq #[] 0), #[]⟩
noncomputable def o_148 (P : Params) : Obj := ⟨.none, none, (.func ⟨s_lower_code, s_lower_code, (sArgs (stm 16)), (.stmts (sBody (stm 16))), (sScope (stm 16)), 0, [], .none, .none, .none, .none, none, .none, .none, 0⟩), #[]⟩
noncomputable def o_149 (P : Params) : Obj := ⟨(.type "code"), none, (.fields #[(.str s_lower_code 313), (.str s_lower_code 314), (.str s_QclaimQcutQpy 315), (.int 42 0), (.int 1 0), (.int 0 0), (.int 0 0), (.int 3 0), (.ref 99), (.bool true), (.int 181 0), (.ref 100), .none, (.ref 101), (.ref 102), (.ref 103), (.int 317 0), (.int 42 0), (.str s_QclaimQcutQpy 318)]), #[]⟩
noncomputable def o_150 (P : Params) : Obj := ⟨(.type "function"), none, (.func ⟨s_lower_code, s_lower_code, (sArgs (stm 16)), (.stmts (sBody (stm 16))), (sScope (stm 16)), 3, [], .none, .none, .none, (.str s_postkeepQoctets 307), none, (.ref 104), .none, 0⟩), #[]⟩
noncomputable def o_151 (P : Params) : Obj := ⟨(.type "tuple"), none, (.seq #[] 0), #[]⟩
noncomputable def o_152 (P : Params) : Obj := ⟨.none, none, (.fields #[]), #[]⟩
noncomputable def o_153 (P : Params) : Obj := ⟨.none, none, (.func ⟨s_lower_text, s_lower_text, (sArgs (stm 17)), (.stmts (sBody (stm 17))), (sScope (stm 17)), 0, [], .none, .none, .none, .none, none, .none, .none, 0⟩), #[]⟩
noncomputable def o_154 (P : Params) : Obj := ⟨(.type "code"), none, (.fields #[(.str s_lower_text 320), (.str s_lower_text 321), (.str s_QclaimQcutQpy 322), (.int 44 0), (.int 1 0), (.int 0 0), (.int 0 0), (.int 3 0), (.ref 106), (.bool true), (.int 181 0), (.ref 107), .none, .none, .none, (.ref 108), (.int 323 0), (.int 44 0), (.str s_QclaimQcutQpy 324)]), #[]⟩
noncomputable def o_155 (P : Params) : Obj := ⟨(.type "function"), none, (.func ⟨s_lower_text, s_lower_text, (sArgs (stm 17)), (.stmts (sBody (stm 17))), (sScope (stm 17)), 3, [], .none, .none, .none, (.str s_postkeepQoctets 307), none, (.ref 109), .none, 0⟩), #[]⟩
noncomputable def o_156 (P : Params) : Obj := ⟨(.type "tuple"), none, (.seq #[(.int 0 326), (.int (-1) 328)] 0), #[]⟩
noncomputable def o_157 (P : Params) : Obj := ⟨(.type "tuple"), none, (.seq #[] 0), #[]⟩
noncomputable def o_158 (P : Params) : Obj := ⟨.none, none, (.fields #[]), #[]⟩
noncomputable def o_159 (P : Params) : Obj := ⟨(.type "tuple"), none, (.seq #[(.str s_data 332), (.str s_at 333), (.str s_end 334), (.str s_behind 335), (.str s_found 336), (.str s_begin 337), (.str s_feed 338), (.str s_last 339)] 0), #[]⟩
noncomputable def o_160 (P : Params) : Obj := ⟨(.type "tuple"), none, (.seq #[] 0), #[]⟩
noncomputable def o_161 (P : Params) : Obj := ⟨.none, none, (.func ⟨s_line_spans, s_line_spans, (sArgs (stm 18)), (.stmts (sBody (stm 18))), (sScope (stm 18)), 0, [], .none, .none, .none, .none, none, .none, .none, 0⟩), #[]⟩
noncomputable def o_162 (P : Params) : Obj := ⟨(.type "code"), none, (.fields #[(.str s_line_spans 329), (.str s_line_spans 330), (.str s_QclaimQcutQpy 331), (.int 46 0), (.int 3 0), (.int 0 0), (.int 0 0), (.int 3 0), (.ref 112), (.bool true), (.int 181 0), (.ref 113), .none, (.ref 114), (.ref 115), (.ref 116), (.int 340 0), (.int 46 0), (.str s_QclaimQcutQpy 341)]), #[]⟩
noncomputable def o_163 (P : Params) : Obj := ⟨(.type "function"), none, (.func ⟨s_line_spans, s_line_spans, (sArgs (stm 18)), (.stmts (sBody (stm 18))), (sScope (stm 18)), 3, [], (.ref 111), .none, .none, (.str s_postkeepQoctets 307), none, (.ref 117), .none, 0⟩), #[]⟩
noncomputable def o_164 (P : Params) : Obj := ⟨(.type "tuple"), none, (.seq #[(.int 32 345), (.int 9 346)] 0), #[]⟩
noncomputable def o_165 (P : Params) : Obj := ⟨(.type "dict"), none, (.dict #[K0 P s___name__ 165 (.str s_postkeepQheaders 343), K0 P s___doc__ 166 .none, K0 P s___package__ 167 .none, K0 P s___loader__ 168 (.builtin "__main__.__loader__#opaque"), K0 P s___spec__ 169 .none, K0 P s___annotations__ 170 (.ref 6), K0 P s___builtins__ 171 (.ref 4), K0 P s___file__ 173 (.str s_QclaimQcutQpy 172), K0 P s___cached__ 174 .none, K0 P s_SIGNS 190 (.bytes #[65, 66, 67, 68, 69, 70, 71, 72, 73, 74, 75, 76, 77, 78, 79, 80, 81, 82, 83, 84, 85, 86, 87, 88, 89, 90, 97, 98, 99, 100, 101, 102, 103, 104, 105, 106, 107, 108, 109, 110, 111, 112, 113, 114, 115, 116, 117, 118, 119, 120, 121, 122, 48, 49, 50, 51, 52, 53, 54, 55, 56, 57, 43, 47] 189), K0 P s_PAD 192 (.int 61 191), K0 P s_LINE_END 194 (.bytes #[13, 10] 193), K0 P s_group_codes 200 (.ref 19), K0 P s_part_encoded 210 (.ref 26), K0 P s_one_line 217 (.ref 33), K0 P s_in_lines 223 (.ref 38), K0 P s_encoded 232 (.ref 46), K0 P s_PostError 274 (.ref 71), K0 P s_WordFault 290 (.ref 84), K0 P s_MimeFault 306 (.ref 96), K0 P s_CRLF 310 (.bytes #[13, 10] 309), K0 P s_RETURN 312 (.int 13 311), K0 P s_lower_code 319 (.ref 105), K0 P s_lower_text 325 (.ref 110), K0 P s_line_spans 342 (.ref 118), K0 P s_WHITE 347 (.ref 119), K0 P s_Field 391 (.ref 148), K0 P s_line_at 401 (.ref 159), K0 P s_is_name 409 (.ref 166), K0 P s_rows_of 420 (.ref 173)] 30), #[]⟩
noncomputable def o_166 (P : Params) : Obj := ⟨.none, none, (.fields #[(.int 5 0), (.int 0 0), (.ref 18), (.int 12 0), (.int 0 0), (.ref 25), (.int 17 0), (.int 0 0), (.ref 32), (.int 19 0), (.int 0 0), (.ref 37), (.int 23 0), (.int 0 0), (.ref 45), (.int 26 0), (.int 0 0), (.ref 52), (.int 35 0), (.int 0 0), (.ref 80), (.int 37 0), (.int 0 0), (.ref 92), (.int 42 0), (.int 0 0), (.ref 104), (.int 44 0), (.int 0 0), (.ref 109), (.int 46 0), (.int 0 0), (.ref 117), (.int 61 0), (.int 0 0), (.ref 125), (.int 72 0), (.int 0 0), (.ref 158), (.int 79 0), (.int 0 0), (.ref 165), (.int 84 0), (.int 0 0), (.ref 172)]), #[]⟩
noncomputable def o_167 (P : Params) : Obj := ⟨(.type "tuple"), none, (.seq #[] 0), #[]⟩
noncomputable def o_168 (P : Params) : Obj := ⟨(.type "builtin_function_or_method"), none, (.fields #[(.builtin "type.__prepare__"), (.type "type")]), #[]⟩
noncomputable def o_169 (P : Params) : Obj := ⟨(.type "dict"), none, (.dict #[K0 P s___module__ 355 (.str s_postkeepQheaders 343), K0 P s___qualname__ 357 (.str s_Field 356), K0 P s___firstlineno__ 359 (.int 61 358), K0 P s___init__ 368 (.ref 133), K0 P s_word 374 (.ref 138), K0 P s_told 381 (.ref 145), K0 P s___static_attributes__ 384 (.ref 146)] 7), #[]⟩
noncomputable def o_170 (P : Params) : Obj := ⟨(.type "tuple"), none, (.seq #[] 0), #[]⟩
noncomputable def o_171 (P : Params) : Obj := ⟨.none, none, (.fields #[(.int 63 0), (.int 4 0), (.ref 132), (.int 67 0), (.int 4 0), (.ref 137), (.int 70 0), (.int 4 0), (.ref 144)]), #[]⟩
noncomputable def o_172 (P : Params) : Obj := ⟨(.type "code"), none, (.fields #[(.str s_Field 350), (.str s_Field 351), (.str s_QclaimQcutQpy 352), (.int 61 0), (.int 0 0), (.int 0 0), (.int 0 0), (.int 0 0), (.ref 123), (.bool false), (.int 181 0), (.ref 124), .none, .none, .none, .none, (.int 353 0), (.int 61 0), (.str s_QclaimQcutQpy 354)]), #[]⟩
noncomputable def o_173 (P : Params) : Obj := ⟨(.type "frame"), none, .plain, #[(some (.ref 125)), (some (.ref 3)), (some (.ref 122)), none, (some (.str s_postkeepQheaders 343)), none, (some (.ref 0))]⟩
noncomputable def o_174 (P : Params) : Obj := ⟨(.type "tuple"), none, (.seq #[] 0), #[]⟩
noncomputable def o_175 (P : Params) : Obj := ⟨.none, none, (.fields #[]), #[]⟩
noncomputable def o_176 (P : Params) : Obj := ⟨(.type "tuple"), none, (.seq #[(.str s_self 363), (.str s_name 364), (.str s_raw 365)] 0), #[]⟩
noncomputable def o_177 (P : Params) : Obj := ⟨(.type "tuple"), none, (.seq #[] 0), #[]⟩
noncomputable def o_178 (P : Params) : Obj := ⟨.none, none, (.func ⟨s___init__, s_FieldQ__init__, (sArgs (mth 21 0)), (.stmts (sBody (mth 21 0))), (sScope (mth 21 0)), 0, [], .none, .none, .none, .none, none, .none, .none, 0⟩), #[]⟩
noncomputable def o_179 (P : Params) : Obj := ⟨(.type "code"), none, (.fields #[(.str s___init__ 360), (.str s_FieldQ__init__ 361), (.str s_QclaimQcutQpy 362), (.int 63 0), (.int 3 0), (.int 0 0), (.int 0 0), (.int 3 0), (.ref 127), (.bool true), (.int 181 0), (.ref 128), .none, (.ref 129), (.ref 130), (.ref 131), (.int 366 0), (.int 63 0), (.str s_QclaimQcutQpy 367)]), #[]⟩
noncomputable def o_180 (P : Params) : Obj := ⟨(.type "function"), none, (.func ⟨s___init__, s_FieldQ__init__, (sArgs (mth 21 0)), (.stmts (sBody (mth 21 0))), (sScope (mth 21 0)), 3, [], .none, .none, .none, (.str s_postkeepQheaders 343), none, (.ref 132), .none, 0⟩), #[]⟩
noncomputable def o_181 (P : Params) : Obj := ⟨(.type "tuple"), none, (.seq #[] 0), #[]⟩
noncomputable def o_182 (P : Params) : Obj := ⟨.none, none, (.fields #[]), #[]⟩
noncomputable def o_183 (P : Params) : Obj := ⟨.none, none, (.func ⟨s_word, s_FieldQword, (sArgs (mth 21 1)), (.stmts (sBody (mth 21 1))), (sScope (mth 21 1)), 0, [], .none, .none, .none, .none, none, .none, .none, 0⟩), #[]⟩
noncomputable def o_184 (P : Params) : Obj := ⟨(.type "code"), none, (.fields #[(.str s_word 369), (.str s_FieldQword 370), (.str s_QclaimQcutQpy 371), (.int 67 0), (.int 1 0), (.int 0 0), (.int 0 0), (.int 3 0), (.ref 134), (.bool true), (.int 181 0), (.ref 135), .none, .none, .none, (.ref 136), (.int 372 0), (.int 67 0), (.str s_QclaimQcutQpy 373)]), #[]⟩
noncomputable def o_185 (P : Params) : Obj := ⟨(.type "function"), none, (.func ⟨s_word, s_FieldQword, (sArgs (mth 21 1)), (.stmts (sBody (mth 21 1))), (sScope (mth 21 1)), 3, [], .none, .none, .none, (.str s_postkeepQheaders 343), none, (.ref 137), .none, 0⟩), #[]⟩
noncomputable def o_186 (P : Params) : Obj := ⟨(.type "tuple"), none, (.seq #[] 0), #[]⟩
noncomputable def o_187 (P : Params) : Obj := ⟨.none, none, (.fields #[]), #[]⟩
noncomputable def o_188 (P : Params) : Obj := ⟨(.type "tuple"), none, (.seq #[(.str s_self 378)] 0), #[]⟩
noncomputable def o_189 (P : Params) : Obj := ⟨(.type "tuple"), none, (.seq #[] 0), #[]⟩
noncomputable def o_190 (P : Params) : Obj := ⟨.none, none, (.func ⟨s_told, s_FieldQtold, (sArgs (mth 21 2)), (.stmts (sBody (mth 21 2))), (sScope (mth 21 2)), 0, [], .none, .none, .none, .none, none, .none, .none, 0⟩), #[]⟩
noncomputable def o_191 (P : Params) : Obj := ⟨(.type "code"), none, (.fields #[(.str s_told 375), (.str s_FieldQtold 376), (.str s_QclaimQcutQpy 377), (.int 70 0), (.int 1 0), (.int 0 0), (.int 0 0), (.int 3 0), (.ref 139), (.bool true), (.int 181 0), (.ref 140), .none, (.ref 141), (.ref 142), (.ref 143), (.int 379 0), (.int 70 0), (.str s_QclaimQcutQpy 380)]), #[]⟩
noncomputable def o_192 (P : Params) : Obj := ⟨(.type "function"), none, (.func ⟨s_told, s_FieldQtold, (sArgs (mth 21 2)), (.stmts (sBody (mth 21 2))), (sScope (mth 21 2)), 3, [], .none, .none, .none, (.str s_postkeepQheaders 343), none, (.ref 144), .none, 0⟩), #[]⟩
noncomputable def o_193 (P : Params) : Obj := ⟨(.type "tuple"), none, (.seq #[(.str s_name 382), (.str s_raw 383)] 0), #[]⟩
noncomputable def o_194 (P : Params) : Obj := ⟨(.type "dict"), none, (.dict #[K0 P s___module__ 355 (.str s_postkeepQheaders 343), K0 P s___firstlineno__ 359 (.int 61 358), K0 P s___init__ 368 (.ref 133), K0 P s_word 374 (.ref 138), K0 P s_told 381 (.ref 145), K0 P s___static_attributes__ 384 (.ref 146), K0 P s___dict__ 386 (.ref 149), K0 P s___weakref__ 388 (.ref 150), K0 P s___doc__ 389 .none] 4), #[]⟩
noncomputable def o_195 (P : Params) : Obj := ⟨(.type "type"), none, (.cls ⟨s_Field, [(.type "object")], [(.ref 148), (.type "object")], 147, s_Field, true, [], [], false, none, false⟩), #[none, none, (some (.str s_Field 348)), (some (.str s_Field 356)), (some (.builtin "object.__new__")), (some (.bool true))]⟩
noncomputable def o_196 (P : Params) : Obj := ⟨(.type "getset_descriptor"), none, (.fields #[(.str s___dict__ 385), (.ref 148), (.builtin "function.__dict__"), (.builtin "function.__dict__#set")]), #[]⟩
noncomputable def o_197 (P : Params) : Obj := ⟨(.type "getset_descriptor"), none, (.fields #[(.str s___weakref__ 387), (.ref 148), (.builtin "ExceptionGroup.__weakref__"), .none]), #[]⟩
noncomputable def o_198 (P : Params) : Obj := ⟨(.type "super"), none, (.fields #[(.ref 148), (.ref 148), (.ref 148)]), #[]⟩
noncomputable def o_199 (P : Params) : Obj := ⟨(.type "builtin_function_or_method"), none, (.fields #[(.builtin "object.__init_subclass__"), (.ref 148)]), #[]⟩
noncomputable def o_200 (P : Params) : Obj := ⟨(.type "tuple"), none, (.seq #[] 0), #[]⟩
noncomputable def o_201 (P : Params) : Obj := ⟨.none, none, (.fields #[]), #[]⟩
noncomputable def o_202 (P : Params) : Obj := ⟨(.type "tuple"), none, (.seq #[(.str s_data 395), (.str s_at 396), (.str s_end 397), (.str s_spot 398)] 0), #[]⟩
noncomputable def o_203 (P : Params) : Obj := ⟨(.type "tuple"), none, (.seq #[] 0), #[]⟩
noncomputable def o_204 (P : Params) : Obj := ⟨.none, none, (.func ⟨s_line_at, s_line_at, (sArgs (stm 22)), (.stmts (sBody (stm 22))), (sScope (stm 22)), 0, [], .none, .none, .none, .none, none, .none, .none, 0⟩), #[]⟩
noncomputable def o_205 (P : Params) : Obj := ⟨(.type "code"), none, (.fields #[(.str s_line_at 392), (.str s_line_at 393), (.str s_QclaimQcutQpy 394), (.int 72 0), (.int 3 0), (.int 0 0), (.int 0 0), (.int 3 0), (.ref 153), (.bool true), (.int 181 0), (.ref 154), .none, (.ref 155), (.ref 156), (.ref 157), (.int 399 0), (.int 72 0), (.str s_QclaimQcutQpy 400)]), #[]⟩
noncomputable def o_206 (P : Params) : Obj := ⟨(.type "function"), none, (.func ⟨s_line_at, s_line_at, (sArgs (stm 22)), (.stmts (sBody (stm 22))), (sScope (stm 22)), 3, [], .none, .none, .none, (.str s_postkeepQheaders 343), none, (.ref 158), .none, 0⟩), #[]⟩
noncomputable def o_207 (P : Params) : Obj := ⟨(.type "tuple"), none, (.seq #[] 0), #[]⟩
noncomputable def o_208 (P : Params) : Obj := ⟨.none, none, (.fields #[]), #[]⟩
noncomputable def o_209 (P : Params) : Obj := ⟨(.type "tuple"), none, (.seq #[(.str s_octets 405), (.str s_code 406)] 0), #[]⟩
noncomputable def o_210 (P : Params) : Obj := ⟨(.type "tuple"), none, (.seq #[] 0), #[]⟩
noncomputable def o_211 (P : Params) : Obj := ⟨.none, none, (.func ⟨s_is_name, s_is_name, (sArgs (stm 23)), (.stmts (sBody (stm 23))), (sScope (stm 23)), 0, [], .none, .none, .none, .none, none, .none, .none, 0⟩), #[]⟩
noncomputable def o_212 (P : Params) : Obj := ⟨(.type "code"), none, (.fields #[(.str s_is_name 402), (.str s_is_name 403), (.str s_QclaimQcutQpy 404), (.int 79 0), (.int 1 0), (.int 0 0), (.int 0 0), (.int 3 0), (.ref 160), (.bool true), (.int 181 0), (.ref 161), .none, (.ref 162), (.ref 163), (.ref 164), (.int 407 0), (.int 79 0), (.str s_QclaimQcutQpy 408)]), #[]⟩
noncomputable def o_213 (P : Params) : Obj := ⟨(.type "function"), none, (.func ⟨s_is_name, s_is_name, (sArgs (stm 23)), (.stmts (sBody (stm 23))), (sScope (stm 23)), 3, [], .none, .none, .none, (.str s_postkeepQheaders 343), none, (.ref 165), .none, 0⟩), #[]⟩
noncomputable def o_214 (P : Params) : Obj := ⟨(.type "tuple"), none, (.seq #[] 0), #[]⟩
noncomputable def o_215 (P : Params) : Obj := ⟨.none, none, (.fields #[]), #[]⟩
noncomputable def o_216 (P : Params) : Obj := ⟨(.type "tuple"), none, (.seq #[(.str s_raw 413), (.str s_rows 414), (.str s_at 415), (.str s_last 416), (.str s_later 417)] 0), #[]⟩
noncomputable def o_217 (P : Params) : Obj := ⟨(.type "tuple"), none, (.seq #[] 0), #[]⟩
noncomputable def o_218 (P : Params) : Obj := ⟨.none, none, (.func ⟨s_rows_of, s_rows_of, (sArgs (stm 24)), (.stmts (sBody (stm 24))), (sScope (stm 24)), 0, [], .none, .none, .none, .none, none, .none, .none, 0⟩), #[]⟩
noncomputable def o_219 (P : Params) : Obj := ⟨(.type "code"), none, (.fields #[(.str s_rows_of 410), (.str s_rows_of 411), (.str s_QclaimQcutQpy 412), (.int 84 0), (.int 1 0), (.int 0 0), (.int 0 0), (.int 3 0), (.ref 167), (.bool true), (.int 181 0), (.ref 168), .none, (.ref 169), (.ref 170), (.ref 171), (.int 418 0), (.int 84 0), (.str s_QclaimQcutQpy 419)]), #[]⟩
noncomputable def o_220 (P : Params) : Obj := ⟨(.type "function"), none, (.func ⟨s_rows_of, s_rows_of, (sArgs (stm 24)), (.stmts (sBody (stm 24))), (sScope (stm 24)), 3, [], .none, .none, .none, (.str s_postkeepQheaders 343), none, (.ref 172), .none, 0⟩), #[]⟩
noncomputable def o_221 (P : Params) : Obj := ⟨(.type "dict"), none, (.dict #[K0 P s___name__ 165 (.str s_postkeepQparams 516), K0 P s___doc__ 166 .none, K0 P s___package__ 167 .none, K0 P s___loader__ 168 (.builtin "__main__.__loader__#opaque"), K0 P s___spec__ 169 .none, K0 P s___annotations__ 170 (.ref 6), K0 P s___builtins__ 171 (.ref 4), K0 P s___file__ 173 (.str s_QclaimQcutQpy 172), K0 P s___cached__ 174 .none, K0 P s_SIGNS 190 (.bytes #[65, 66, 67, 68, 69, 70, 71, 72, 73, 74, 75, 76, 77, 78, 79, 80, 81, 82, 83, 84, 85, 86, 87, 88, 89, 90, 97, 98, 99, 100, 101, 102, 103, 104, 105, 106, 107, 108, 109, 110, 111, 112, 113, 114, 115, 116, 117, 118, 119, 120, 121, 122, 48, 49, 50, 51, 52, 53, 54, 55, 56, 57, 43, 47] 189), K0 P s_PAD 192 (.int 61 191), K0 P s_LINE_END 194 (.bytes #[13, 10] 193), K0 P s_group_codes 200 (.ref 19), K0 P s_part_encoded 210 (.ref 26), K0 P s_one_line 217 (.ref 33), K0 P s_in_lines 223 (.ref 38), K0 P s_encoded 232 (.ref 46), K0 P s_PostError 274 (.ref 71), K0 P s_WordFault 290 (.ref 84), K0 P s_MimeFault 306 (.ref 96), K0 P s_CRLF 310 (.bytes #[13, 10] 309), K0 P s_RETURN 312 (.int 13 311), K0 P s_lower_code 319 (.ref 105), K0 P s_lower_text 325 (.ref 110), K0 P s_line_spans 342 (.ref 118), K0 P s_WHITE 347 (.ref 119), K0 P s_Field 391 (.ref 148), K0 P s_line_at 401 (.ref 159), K0 P s_is_name 409 (.ref 166), K0 P s_rows_of 420 (.ref 173), K0 P s_unfolded 427 (.ref 180), K0 P s_without_words 433 (.ref 185), K0 P s_is_sound 441 (.ref 192), K0 P s_write_fields 447 (.ref 197), K0 P s_ASCII 451 (.str s_usQascii 450), K0 P s_LATIN 453 (.str s_isoQ8859Q1 452), K0 P s_UTF8 455 (.str s_utfQ8 454), K0 P s_CHARSETS 456 (.ref 198), K0 P s_need_charset 463 (.ref 205), K0 P s_utf8_length 469 (.ref 210), K0 P s_utf8_octets 480 (.ref 217), K0 P s_has_sign 488 (.ref 224), K0 P s_octets_in 499 (.ref 231), K0 P s_NEVER_ESCAPED 505 (.ref 232), K0 P s_escaped_octets 515 (.ref 239), K0 P s_PER_CENT 519 (.int 37 518), K0 P s_BARRED 521 (.bytes #[40, 41, 60, 62, 64, 44, 59, 58, 92, 34, 47, 91, 93, 63, 61] 520)] 47), #[]⟩
noncomputable def o_222 (P : Params) : Obj := ⟨.none, none, (.fields #[(.int 5 0), (.int 0 0), (.ref 18), (.int 12 0), (.int 0 0), (.ref 25), (.int 17 0), (.int 0 0), (.ref 32), (.int 19 0), (.int 0 0), (.ref 37), (.int 23 0), (.int 0 0), (.ref 45), (.int 26 0), (.int 0 0), (.ref 52), (.int 35 0), (.int 0 0), (.ref 80), (.int 37 0), (.int 0 0), (.ref 92), (.int 42 0), (.int 0 0), (.ref 104), (.int 44 0), (.int 0 0), (.ref 109), (.int 46 0), (.int 0 0), (.ref 117), (.int 61 0), (.int 0 0), (.ref 125), (.int 72 0), (.int 0 0), (.ref 158), (.int 79 0), (.int 0 0), (.ref 165), (.int 84 0), (.int 0 0), (.ref 172), (.int 93 0), (.int 0 0), (.ref 179), (.int 95 0), (.int 0 0), (.ref 184), (.int 98 0), (.int 0 0), (.ref 191), (.int 105 0), (.int 0 0), (.ref 196), (.int 115 0), (.int 0 0), (.ref 204), (.int 118 0), (.int 0 0), (.ref 209), (.int 122 0), (.int 0 0), (.ref 216), (.int 132 0), (.int 0 0), (.ref 223), (.int 136 0), (.int 0 0), (.ref 230), (.int 150 0), (.int 0 0), (.ref 238)]), #[]⟩
noncomputable def o_223 (P : Params) : Obj := ⟨(.type "tuple"), none, (.seq #[] 0), #[]⟩
noncomputable def o_224 (P : Params) : Obj := ⟨.none, none, (.fields #[]), #[]⟩
noncomputable def o_225 (P : Params) : Obj := ⟨(.type "tuple"), none, (.seq #[(.str s_raw 424)] 0), #[]⟩
noncomputable def o_226 (P : Params) : Obj := ⟨(.type "tuple"), none, (.seq #[] 0), #[]⟩
noncomputable def o_227 (P : Params) : Obj := ⟨.none, none, (.func ⟨s_unfolded, s_unfolded, (sArgs (stm 25)), (.stmts (sBody (stm 25))), (sScope (stm 25)), 0, [], .none, .none, .none, .none, none, .none, .none, 0⟩), #[]⟩
noncomputable def o_228 (P : Params) : Obj := ⟨(.type "code"), none, (.fields #[(.str s_unfolded 421), (.str s_unfolded 422), (.str s_QclaimQcutQpy 423), (.int 93 0), (.int 1 0), (.int 0 0), (.int 0 0), (.int 3 0), (.ref 174), (.bool true), (.int 181 0), (.ref 175), .none, (.ref 176), (.ref 177), (.ref 178), (.int 425 0), (.int 93 0), (.str s_QclaimQcutQpy 426)]), #[]⟩
noncomputable def o_229 (P : Params) : Obj := ⟨(.type "function"), none, (.func ⟨s_unfolded, s_unfolded, (sArgs (stm 25)), (.stmts (sBody (stm 25))), (sScope (stm 25)), 3, [], .none, .none, .none, (.str s_postkeepQheaders 343), none, (.ref 179), .none, 0⟩), #[]⟩
noncomputable def o_230 (P : Params) : Obj := ⟨(.type "tuple"), none, (.seq #[] 0), #[]⟩
noncomputable def o_231 (P : Params) : Obj := ⟨.none, none, (.fields #[]), #[]⟩
noncomputable def o_232 (P : Params) : Obj := ⟨.none, none, (.func ⟨s_without_words, s_without_words, (sArgs (stm 26)), (.stmts (sBody (stm 26))), (sScope (stm 26)), 0, [], .none, .none, .none, .none, none, .none, .none, 0⟩), #[]⟩
noncomputable def o_233 (P : Params) : Obj := ⟨(.type "code"), none, (.fields #[(.str s_without_words 428), (.str s_without_words 429), (.str s_QclaimQcutQpy 430), (.int 95 0), (.int 2 0), (.int 0 0), (.int 0 0), (.int 3 0), (.ref 181), (.bool true), (.int 181 0), (.ref 182), .none, .none, .none, (.ref 183), (.int 431 0), (.int 95 0), (.str s_QclaimQcutQpy 432)]), #[]⟩
noncomputable def o_234 (P : Params) : Obj := ⟨(.type "function"), none, (.func ⟨s_without_words, s_without_words, (sArgs (stm 26)), (.stmts (sBody (stm 26))), (sScope (stm 26)), 3, [], .none, .none, .none, (.str s_postkeepQheaders 343), none, (.ref 184), .none, 0⟩), #[]⟩
noncomputable def o_235 (P : Params) : Obj := ⟨(.type "tuple"), none, (.seq #[] 0), #[]⟩
noncomputable def o_236 (P : Params) : Obj := ⟨.none, none, (.fields #[]), #[]⟩
noncomputable def o_237 (P : Params) : Obj := ⟨(.type "tuple"), none, (.seq #[(.str s_field 437), (.str s_row 438)] 0), #[]⟩
noncomputable def o_238 (P : Params) : Obj := ⟨(.type "tuple"), none, (.seq #[] 0), #[]⟩
noncomputable def o_239 (P : Params) : Obj := ⟨.none, none, (.func ⟨s_is_sound, s_is_sound, (sArgs (stm 27)), (.stmts (sBody (stm 27))), (sScope (stm 27)), 0, [], .none, .none, .none, .none, none, .none, .none, 0⟩), #[]⟩
noncomputable def o_240 (P : Params) : Obj := ⟨(.type "code"), none, (.fields #[(.str s_is_sound 434), (.str s_is_sound 435), (.str s_QclaimQcutQpy 436), (.int 98 0), (.int 1 0), (.int 0 0), (.int 0 0), (.int 3 0), (.ref 186), (.bool true), (.int 181 0), (.ref 187), .none, (.ref 188), (.ref 189), (.ref 190), (.int 439 0), (.int 98 0), (.str s_QclaimQcutQpy 440)]), #[]⟩
noncomputable def o_241 (P : Params) : Obj := ⟨(.type "function"), none, (.func ⟨s_is_sound, s_is_sound, (sArgs (stm 27)), (.stmts (sBody (stm 27))), (sScope (stm 27)), 3, [], .none, .none, .none, (.str s_postkeepQheaders 343), none, (.ref 191), .none, 0⟩), #[]⟩
noncomputable def o_242 (P : Params) : Obj := ⟨(.type "tuple"), none, (.seq #[] 0), #[]⟩
noncomputable def o_243 (P : Params) : Obj := ⟨.none, none, (.fields #[]), #[]⟩
noncomputable def o_244 (P : Params) : Obj := ⟨.none, none, (.func ⟨s_write_fields, s_write_fields, (sArgs (stm 28)), (.stmts (sBody (stm 28))), (sScope (stm 28)), 0, [], .none, .none, .none, .none, none, .none, .none, 0⟩), #[]⟩
noncomputable def o_245 (P : Params) : Obj := ⟨(.type "code"), none, (.fields #[(.str s_write_fields 442), (.str s_write_fields 443), (.str s_QclaimQcutQpy 444), (.int 105 0), (.int 1 0), (.int 0 0), (.int 0 0), (.int 3 0), (.ref 193), (.bool true), (.int 181 0), (.ref 194), .none, .none, .none, (.ref 195), (.int 445 0), (.int 105 0), (.str s_QclaimQcutQpy 446)]), #[]⟩
noncomputable def o_246 (P : Params) : Obj := ⟨(.type "function"), none, (.func ⟨s_write_fields, s_write_fields, (sArgs (stm 28)), (.stmts (sBody (stm 28))), (sScope (stm 28)), 3, [], .none, .none, .none, (.str s_postkeepQheaders 343), none, (.ref 196), .none, 0⟩), #[]⟩
noncomputable def o_247 (P : Params) : Obj := ⟨(.type "tuple"), none, (.seq #[(.str s_usQascii 450), (.str s_isoQ8859Q1 452), (.str s_utfQ8 454)] 0), #[]⟩
noncomputable def o_248 (P : Params) : Obj := ⟨(.type "tuple"), none, (.seq #[] 0), #[]⟩
noncomputable def o_249 (P : Params) : Obj := ⟨.none, none, (.fields #[]), #[]⟩
noncomputable def o_250 (P : Params) : Obj := ⟨(.type "tuple"), none, (.seq #[(.str s_charset 460)] 0), #[]⟩
noncomputable def o_251 (P : Params) : Obj := ⟨(.type "tuple"), none, (.seq #[] 0), #[]⟩
noncomputable def o_252 (P : Params) : Obj := ⟨.none, none, (.func ⟨s_need_charset, s_need_charset, (sArgs (stm 34)), (.stmts (sBody (stm 34))), (sScope (stm 34)), 0, [], .none, .none, .none, .none, none, .none, .none, 0⟩), #[]⟩
noncomputable def o_253 (P : Params) : Obj := ⟨(.type "code"), none, (.fields #[(.str s_need_charset 457), (.str s_need_charset 458), (.str s_QclaimQcutQpy 459), (.int 115 0), (.int 1 0), (.int 0 0), (.int 0 0), (.int 3 0), (.ref 199), (.bool true), (.int 181 0), (.ref 200), .none, (.ref 201), (.ref 202), (.ref 203), (.int 461 0), (.int 115 0), (.str s_QclaimQcutQpy 462)]), #[]⟩
noncomputable def o_254 (P : Params) : Obj := ⟨(.type "function"), none, (.func ⟨s_need_charset, s_need_charset, (sArgs (stm 34)), (.stmts (sBody (stm 34))), (sScope (stm 34)), 3, [], .none, .none, .none, (.str s_postkeepQcharsets 448), none, (.ref 204), .none, 0⟩), #[]⟩
noncomputable def o_255 (P : Params) : Obj := ⟨(.type "tuple"), none, (.seq #[] 0), #[]⟩
noncomputable def o_256 (P : Params) : Obj := ⟨.none, none, (.fields #[]), #[]⟩
noncomputable def o_257 (P : Params) : Obj := ⟨.none, none, (.func ⟨s_utf8_length, s_utf8_length, (sArgs (stm 35)), (.stmts (sBody (stm 35))), (sScope (stm 35)), 0, [], .none, .none, .none, .none, none, .none, .none, 0⟩), #[]⟩
noncomputable def o_258 (P : Params) : Obj := ⟨(.type "code"), none, (.fields #[(.str s_utf8_length 464), (.str s_utf8_length 465), (.str s_QclaimQcutQpy 466), (.int 118 0), (.int 1 0), (.int 0 0), (.int 0 0), (.int 3 0), (.ref 206), (.bool true), (.int 181 0), (.ref 207), .none, .none, .none, (.ref 208), (.int 467 0), (.int 118 0), (.str s_QclaimQcutQpy 468)]), #[]⟩
noncomputable def o_259 (P : Params) : Obj := ⟨(.type "function"), none, (.func ⟨s_utf8_length, s_utf8_length, (sArgs (stm 35)), (.stmts (sBody (stm 35))), (sScope (stm 35)), 3, [], .none, .none, .none, (.str s_postkeepQcharsets 448), none, (.ref 209), .none, 0⟩), #[]⟩
noncomputable def o_260 (P : Params) : Obj := ⟨(.type "tuple"), none, (.seq #[] 0), #[]⟩
noncomputable def o_261 (P : Params) : Obj := ⟨.none, none, (.fields #[]), #[]⟩
noncomputable def o_262 (P : Params) : Obj := ⟨(.type "tuple"), none, (.seq #[(.str s_code 473), (.str s_length 474), (.str s_found 475), (.str s_left 476), (.str s_place 477)] 0), #[]⟩
noncomputable def o_263 (P : Params) : Obj := ⟨(.type "tuple"), none, (.seq #[] 0), #[]⟩
noncomputable def o_264 (P : Params) : Obj := ⟨.none, none, (.func ⟨s_utf8_octets, s_utf8_octets, (sArgs (stm 36)), (.stmts (sBody (stm 36))), (sScope (stm 36)), 0, [], .none, .none, .none, .none, none, .none, .none, 0⟩), #[]⟩
noncomputable def o_265 (P : Params) : Obj := ⟨(.type "code"), none, (.fields #[(.str s_utf8_octets 470), (.str s_utf8_octets 471), (.str s_QclaimQcutQpy 472), (.int 122 0), (.int 1 0), (.int 0 0), (.int 0 0), (.int 3 0), (.ref 211), (.bool true), (.int 181 0), (.ref 212), .none, (.ref 213), (.ref 214), (.ref 215), (.int 478 0), (.int 122 0), (.str s_QclaimQcutQpy 479)]), #[]⟩
noncomputable def o_266 (P : Params) : Obj := ⟨(.type "function"), none, (.func ⟨s_utf8_octets, s_utf8_octets, (sArgs (stm 36)), (.stmts (sBody (stm 36))), (sScope (stm 36)), 3, [], .none, .none, .none, (.str s_postkeepQcharsets 448), none, (.ref 216), .none, 0⟩), #[]⟩
noncomputable def o_267 (P : Params) : Obj := ⟨(.type "tuple"), none, (.seq #[] 0), #[]⟩
noncomputable def o_268 (P : Params) : Obj := ⟨.none, none, (.fields #[]), #[]⟩
noncomputable def o_269 (P : Params) : Obj := ⟨(.type "tuple"), none, (.seq #[(.str s_charset 484), (.str s_code 485)] 0), #[]⟩
noncomputable def o_270 (P : Params) : Obj := ⟨(.type "tuple"), none, (.seq #[] 0), #[]⟩
noncomputable def o_271 (P : Params) : Obj := ⟨.none, none, (.func ⟨s_has_sign, s_has_sign, (sArgs (stm 37)), (.stmts (sBody (stm 37))), (sScope (stm 37)), 0, [], .none, .none, .none, .none, none, .none, .none, 0⟩), #[]⟩
noncomputable def o_272 (P : Params) : Obj := ⟨(.type "code"), none, (.fields #[(.str s_has_sign 481), (.str s_has_sign 482), (.str s_QclaimQcutQpy 483), (.int 132 0), (.int 2 0), (.int 0 0), (.int 0 0), (.int 3 0), (.ref 218), (.bool true), (.int 181 0), (.ref 219), .none, (.ref 220), (.ref 221), (.ref 222), (.int 486 0), (.int 132 0), (.str s_QclaimQcutQpy 487)]), #[]⟩
noncomputable def o_273 (P : Params) : Obj := ⟨(.type "function"), none, (.func ⟨s_has_sign, s_has_sign, (sArgs (stm 37)), (.stmts (sBody (stm 37))), (sScope (stm 37)), 3, [], .none, .none, .none, (.str s_postkeepQcharsets 448), none, (.ref 223), .none, 0⟩), #[]⟩
noncomputable def o_274 (P : Params) : Obj := ⟨(.type "tuple"), none, (.seq #[] 0), #[]⟩
noncomputable def o_275 (P : Params) : Obj := ⟨.none, none, (.fields #[]), #[]⟩
noncomputable def o_276 (P : Params) : Obj := ⟨(.type "tuple"), none, (.seq #[(.str s_charset 492), (.str s_text 493), (.str s_row 494), (.str s_at 495), (.str s_code 496)] 0), #[]⟩
noncomputable def o_277 (P : Params) : Obj := ⟨(.type "tuple"), none, (.seq #[] 0), #[]⟩
noncomputable def o_278 (P : Params) : Obj := ⟨.none, none, (.func ⟨s_octets_in, s_octets_in, (sArgs (stm 38)), (.stmts (sBody (stm 38))), (sScope (stm 38)), 0, [], .none, .none, .none, .none, none, .none, .none, 0⟩), #[]⟩
noncomputable def o_279 (P : Params) : Obj := ⟨(.type "code"), none, (.fields #[(.str s_octets_in 489), (.str s_octets_in 490), (.str s_QclaimQcutQpy 491), (.int 136 0), (.int 2 0), (.int 0 0), (.int 0 0), (.int 3 0), (.ref 225), (.bool true), (.int 181 0), (.ref 226), .none, (.ref 227), (.ref 228), (.ref 229), (.int 497 0), (.int 136 0), (.str s_QclaimQcutQpy 498)]), #[]⟩
noncomputable def o_280 (P : Params) : Obj := ⟨(.type "function"), none, (.func ⟨s_octets_in, s_octets_in, (sArgs (stm 38)), (.stmts (sBody (stm 38))), (sScope (stm 38)), 3, [], .none, .none, .none, (.str s_postkeepQcharsets 448), none, (.ref 230), .none, 0⟩), #[]⟩
noncomputable def o_281 (P : Params) : Obj := ⟨(.type "tuple"), none, (.seq #[(.int 0 502), (.int 10 503), (.int 13 504)] 0), #[]⟩
noncomputable def o_282 (P : Params) : Obj := ⟨(.type "tuple"), none, (.seq #[] 0), #[]⟩
noncomputable def o_283 (P : Params) : Obj := ⟨.none, none, (.fields #[]), #[]⟩
noncomputable def o_284 (P : Params) : Obj := ⟨(.type "tuple"), none, (.seq #[(.str s_octets 509), (.str s_signs 510), (.str s_parts 511), (.str s_at 512)] 0), #[]⟩
noncomputable def o_285 (P : Params) : Obj := ⟨(.type "tuple"), none, (.seq #[] 0), #[]⟩
noncomputable def o_286 (P : Params) : Obj := ⟨.none, none, (.func ⟨s_escaped_octets, s_escaped_octets, (sArgs (stm 41)), (.stmts (sBody (stm 41))), (sScope (stm 41)), 0, [], .none, .none, .none, .none, none, .none, .none, 0⟩), #[]⟩
noncomputable def o_287 (P : Params) : Obj := ⟨(.type "code"), none, (.fields #[(.str s_escaped_octets 506), (.str s_escaped_octets 507), (.str s_QclaimQcutQpy 508), (.int 150 0), (.int 2 0), (.int 0 0), (.int 0 0), (.int 3 0), (.ref 233), (.bool true), (.int 181 0), (.ref 234), .none, (.ref 235), (.ref 236), (.ref 237), (.int 513 0), (.int 150 0), (.str s_QclaimQcutQpy 514)]), #[]⟩
noncomputable def o_288 (P : Params) : Obj := ⟨(.type "function"), none, (.func ⟨s_escaped_octets, s_escaped_octets, (sArgs (stm 41)), (.stmts (sBody (stm 41))), (sScope (stm 41)), 3, [], .none, .none, .none, (.str s_postkeepQtokens 500), none, (.ref 238), .none, 0⟩), #[]⟩
noncomputable def o_289 (P : Params) : Obj := ⟨(.type "dict"), none, (.dict #[K0 P s___name__ 165 (.str s_postkeepQparams 516), K0 P s___doc__ 166 .none, K0 P s___package__ 167 .none, K0 P s___loader__ 168 (.builtin "__main__.__loader__#opaque"), K0 P s___spec__ 169 .none, K0 P s___annotations__ 170 (.ref 6), K0 P s___builtins__ 171 (.ref 4), K0 P s___file__ 173 (.str s_QclaimQcutQpy 172), K0 P s___cached__ 174 .none, K0 P s_SIGNS 190 (.bytes #[65, 66, 67, 68, 69, 70, 71, 72, 73, 74, 75, 76, 77, 78, 79, 80, 81, 82, 83, 84, 85, 86, 87, 88, 89, 90, 97, 98, 99, 100, 101, 102, 103, 104, 105, 106, 107, 108, 109, 110, 111, 112, 113, 114, 115, 116, 117, 118, 119, 120, 121, 122, 48, 49, 50, 51, 52, 53, 54, 55, 56, 57, 43, 47] 189), K0 P s_PAD 192 (.int 61 191), K0 P s_LINE_END 194 (.bytes #[13, 10] 193), K0 P s_group_codes 200 (.ref 19), K0 P s_part_encoded 210 (.ref 26), K0 P s_one_line 217 (.ref 33), K0 P s_in_lines 223 (.ref 38), K0 P s_encoded 232 (.ref 46), K0 P s_PostError 274 (.ref 71), K0 P s_WordFault 290 (.ref 84), K0 P s_MimeFault 306 (.ref 96), K0 P s_CRLF 310 (.bytes #[13, 10] 309), K0 P s_RETURN 312 (.int 13 311), K0 P s_lower_code 319 (.ref 105), K0 P s_lower_text 325 (.ref 110), K0 P s_line_spans 342 (.ref 118), K0 P s_WHITE 347 (.ref 119), K0 P s_Field 391 (.ref 148), K0 P s_line_at 401 (.ref 159), K0 P s_is_name 409 (.ref 166), K0 P s_rows_of 420 (.ref 173), K0 P s_unfolded 427 (.ref 180), K0 P s_without_words 433 (.ref 185), K0 P s_is_sound 441 (.ref 192), K0 P s_write_fields 447 (.ref 197), K0 P s_ASCII 451 (.str s_usQascii 450), K0 P s_LATIN 453 (.str s_isoQ8859Q1 452), K0 P s_UTF8 455 (.str s_utfQ8 454), K0 P s_CHARSETS 456 (.ref 198), K0 P s_need_charset 463 (.ref 205), K0 P s_utf8_length 469 (.ref 210), K0 P s_utf8_octets 480 (.ref 217), K0 P s_has_sign 488 (.ref 224), K0 P s_octets_in 499 (.ref 231), K0 P s_NEVER_ESCAPED 505 (.ref 232), K0 P s_escaped_octets 515 (.ref 239), K0 P s_PER_CENT 519 (.int 37 518), K0 P s_BARRED 521 (.bytes #[40, 41, 60, 62, 64, 44, 59, 58, 92, 34, 47, 91, 93, 63, 61] 520), K0 P s_BARRED_IN_NAMES 523 (.bytes #[42, 39, 37] 522), K0 P s_HEX_FIGURES 525 (.bytes #[48, 49, 50, 51, 52, 53, 54, 55, 56, 57, 65, 66, 67, 68, 69, 70] 524), K0 P s_WIDTH 527 (.int 78 526), K0 P s_MOST_NAME 529 (.int 40 528), K0 P s_MOST_PARTS 531 (.int 1000 530), K0 P s_ROOM 533 (.int 66 532)] 53), #[]⟩
noncomputable def o_291 (P : Params) : Obj := ⟨(.type "dict"), none, (.dict #[K0 P s___name__ 165 (.str s_postkeepQparams 516), K0 P s___doc__ 166 .none, K0 P s___package__ 167 .none, K0 P s___loader__ 168 (.builtin "__main__.__loader__#opaque"), K0 P s___spec__ 169 .none, K0 P s___annotations__ 170 (.ref 6), K0 P s___builtins__ 171 (.ref 4), K0 P s___file__ 173 (.str s_QclaimQcutQpy 172), K0 P s___cached__ 174 .none, K0 P s_SIGNS 190 (.bytes #[65, 66, 67, 68, 69, 70, 71, 72, 73, 74, 75, 76, 77, 78, 79, 80, 81, 82, 83, 84, 85, 86, 87, 88, 89, 90, 97, 98, 99, 100, 101, 102, 103, 104, 105, 106, 107, 108, 109, 110, 111, 112, 113, 114, 115, 116, 117, 118, 119, 120, 121, 122, 48, 49, 50, 51, 52, 53, 54, 55, 56, 57, 43, 47] 189), K0 P s_PAD 192 (.int 61 191), K0 P s_LINE_END 194 (.bytes #[13, 10] 193), K0 P s_group_codes 200 (.ref 19), K0 P s_part_encoded 210 (.ref 26), K0 P s_one_line 217 (.ref 33), K0 P s_in_lines 223 (.ref 38), K0 P s_encoded 232 (.ref 46), K0 P s_PostError 274 (.ref 71), K0 P s_WordFault 290 (.ref 84), K0 P s_MimeFault 306 (.ref 96), K0 P s_CRLF 310 (.bytes #[13, 10] 309), K0 P s_RETURN 312 (.int 13 311), K0 P s_lower_code 319 (.ref 105), K0 P s_lower_text 325 (.ref 110), K0 P s_line_spans 342 (.ref 118), K0 P s_WHITE 347 (.ref 119), K0 P s_Field 391 (.ref 148), K0 P s_line_at 401 (.ref 159), K0 P s_is_name 409 (.ref 166), K0 P s_rows_of 420 (.ref 173), K0 P s_unfolded 427 (.ref 180), K0 P s_without_words 433 (.ref 185), K0 P s_is_sound 441 (.ref 192), K0 P s_write_fields 447 (.ref 197), K0 P s_ASCII 451 (.str s_usQascii 450), K0 P s_LATIN 453 (.str s_isoQ8859Q1 452), K0 P s_UTF8 455 (.str s_utfQ8 454), K0 P s_CHARSETS 456 (.ref 198), K0 P s_need_charset 463 (.ref 205), K0 P s_utf8_length 469 (.ref 210), K0 P s_utf8_octets 480 (.ref 217), K0 P s_has_sign 488 (.ref 224), K0 P s_octets_in 499 (.ref 231), K0 P s_NEVER_ESCAPED 505 (.ref 232), K0 P s_escaped_octets 515 (.ref 239), K0 P s_PER_CENT 519 (.int 37 518), K0 P s_BARRED 521 (.bytes #[40, 41, 60, 62, 64, 44, 59, 58, 92, 34, 47, 91, 93, 63, 61] 520), K0 P s_BARRED_IN_NAMES 523 (.bytes #[42, 39, 37] 522), K0 P s_HEX_FIGURES 525 (.bytes #[48, 49, 50, 51, 52, 53, 54, 55, 56, 57, 65, 66, 67, 68, 69, 70] 524), K0 P s_WIDTH 527 (.int 78 526), K0 P s_MOST_NAME 529 (.int 40 528), K0 P s_MOST_PARTS 531 (.int 1000 530), K0 P s_ROOM 533 (.int 66 532), K0 P s_Kind 593 (.ref 282), K0 P s_is_token_code 600 (.ref 293)] 55), #[]⟩
noncomputable def o_292 (P : Params) : Obj := ⟨.none, none, (.fields #[(.int 5 0), (.int 0 0), (.ref 18), (.int 12 0), (.int 0 0), (.ref 25), (.int 17 0), (.int 0 0), (.ref 32), (.int 19 0), (.int 0 0), (.ref 37), (.int 23 0), (.int 0 0), (.ref 45), (.int 26 0), (.int 0 0), (.ref 52), (.int 35 0), (.int 0 0), (.ref 80), (.int 37 0), (.int 0 0), (.ref 92), (.int 42 0), (.int 0 0), (.ref 104), (.int 44 0), (.int 0 0), (.ref 109), (.int 46 0), (.int 0 0), (.ref 117), (.int 61 0), (.int 0 0), (.ref 125), (.int 72 0), (.int 0 0), (.ref 158), (.int 79 0), (.int 0 0), (.ref 165), (.int 84 0), (.int 0 0), (.ref 172), (.int 93 0), (.int 0 0), (.ref 179), (.int 95 0), (.int 0 0), (.ref 184), (.int 98 0), (.int 0 0), (.ref 191), (.int 105 0), (.int 0 0), (.ref 196), (.int 115 0), (.int 0 0), (.ref 204), (.int 118 0), (.int 0 0), (.ref 209), (.int 122 0), (.int 0 0), (.ref 216), (.int 132 0), (.int 0 0), (.ref 223), (.int 136 0), (.int 0 0), (.ref 230), (.int 150 0), (.int 0 0), (.ref 238), (.int 168 0), (.int 0 0), (.ref 245), (.int 186 0), (.int 0 0), (.ref 292)]), #[]⟩
noncomputable def o_293 (P : Params) : Obj := ⟨(.type "tuple"), none, (.seq #[] 0), #[]⟩
noncomputable def o_294 (P : Params) : Obj := ⟨(.type "builtin_function_or_method"), none, (.fields #[(.builtin "type.__prepare__"), (.type "type")]), #[]⟩
noncomputable def o_295 (P : Params) : Obj := ⟨(.type "dict"), none, (.dict #[K0 P s___module__ 541 (.str s_postkeepQparams 516), K0 P s___qualname__ 543 (.str s_Kind 542), K0 P s___firstlineno__ 545 (.int 168 544), K0 P s___init__ 555 (.ref 253), K0 P s_told 561 (.ref 258), K0 P s_is_multi 568 (.ref 265), K0 P s_is_letter 575 (.ref 272), K0 P s_is_text 582 (.ref 279), K0 P s___static_attributes__ 586 (.ref 280)] 9), #[]⟩
noncomputable def o_296 (P : Params) : Obj := ⟨(.type "tuple"), none, (.seq #[] 0), #[]⟩
noncomputable def o_297 (P : Params) : Obj := ⟨.none, none, (.fields #[(.int 170 0), (.int 4 0), (.ref 252), (.int 175 0), (.int 4 0), (.ref 257), (.int 178 0), (.int 4 0), (.ref 264), (.int 181 0), (.int 4 0), (.ref 271), (.int 184 0), (.int 4 0), (.ref 278)]), #[]⟩
noncomputable def o_298 (P : Params) : Obj := ⟨(.type "code"), none, (.fields #[(.str s_Kind 536), (.str s_Kind 537), (.str s_QclaimQcutQpy 538), (.int 168 0), (.int 0 0), (.int 0 0), (.int 0 0), (.int 0 0), (.ref 243), (.bool false), (.int 181 0), (.ref 244), .none, .none, .none, .none, (.int 539 0), (.int 168 0), (.str s_QclaimQcutQpy 540)]), #[]⟩
noncomputable def o_299 (P : Params) : Obj := ⟨(.type "frame"), none, .plain, #[(some (.ref 245)), (some (.ref 3)), (some (.ref 242)), none, (some (.str s_postkeepQparams 516)), none, (some (.ref 0))]⟩
noncomputable def o_300 (P : Params) : Obj := ⟨(.type "tuple"), none, (.seq #[] 0), #[]⟩
noncomputable def o_301 (P : Params) : Obj := ⟨.none, none, (.fields #[]), #[]⟩
noncomputable def o_302 (P : Params) : Obj := ⟨(.type "tuple"), none, (.seq #[(.str s_self 549), (.str s_top 550), (.str s_sub 551), (.str s_params 552)] 0), #[]⟩
noncomputable def o_303 (P : Params) : Obj := ⟨(.type "tuple"), none, (.seq #[] 0), #[]⟩
noncomputable def o_304 (P : Params) : Obj := ⟨.none, none, (.func ⟨s___init__, s_KindQ__init__, (sArgs (mth 51 0)), (.stmts (sBody (mth 51 0))), (sScope (mth 51 0)), 0, [], .none, .none, .none, .none, none, .none, .none, 0⟩), #[]⟩
noncomputable def o_305 (P : Params) : Obj := ⟨(.type "code"), none, (.fields #[(.str s___init__ 546), (.str s_KindQ__init__ 547), (.str s_QclaimQcutQpy 548), (.int 170 0), (.int 4 0), (.int 0 0), (.int 0 0), (.int 3 0), (.ref 247), (.bool true), (.int 181 0), (.ref 248), .none, (.ref 249), (.ref 250), (.ref 251), (.int 553 0), (.int 170 0), (.str s_QclaimQcutQpy 554)]), #[]⟩
noncomputable def o_306 (P : Params) : Obj := ⟨(.type "function"), none, (.func ⟨s___init__, s_KindQ__init__, (sArgs (mth 51 0)), (.stmts (sBody (mth 51 0))), (sScope (mth 51 0)), 3, [], .none, .none, .none, (.str s_postkeepQparams 516), none, (.ref 252), .none, 0⟩), #[]⟩
noncomputable def o_307 (P : Params) : Obj := ⟨(.type "tuple"), none, (.seq #[] 0), #[]⟩
noncomputable def o_308 (P : Params) : Obj := ⟨.none, none, (.fields #[]), #[]⟩
noncomputable def o_309 (P : Params) : Obj := ⟨.none, none, (.func ⟨s_told, s_KindQtold, (sArgs (mth 51 1)), (.stmts (sBody (mth 51 1))), (sScope (mth 51 1)), 0, [], .none, .none, .none, .none, none, .none, .none, 0⟩), #[]⟩
noncomputable def o_310 (P : Params) : Obj := ⟨(.type "code"), none, (.fields #[(.str s_told 556), (.str s_KindQtold 557), (.str s_QclaimQcutQpy 558), (.int 175 0), (.int 1 0), (.int 0 0), (.int 0 0), (.int 3 0), (.ref 254), (.bool true), (.int 181 0), (.ref 255), .none, .none, .none, (.ref 256), (.int 559 0), (.int 175 0), (.str s_QclaimQcutQpy 560)]), #[]⟩
noncomputable def o_311 (P : Params) : Obj := ⟨(.type "function"), none, (.func ⟨s_told, s_KindQtold, (sArgs (mth 51 1)), (.stmts (sBody (mth 51 1))), (sScope (mth 51 1)), 3, [], .none, .none, .none, (.str s_postkeepQparams 516), none, (.ref 257), .none, 0⟩), #[]⟩
noncomputable def o_312 (P : Params) : Obj := ⟨(.type "tuple"), none, (.seq #[] 0), #[]⟩
noncomputable def o_313 (P : Params) : Obj := ⟨.none, none, (.fields #[]), #[]⟩
noncomputable def o_314 (P : Params) : Obj := ⟨(.type "tuple"), none, (.seq #[(.str s_self 565)] 0), #[]⟩
noncomputable def o_315 (P : Params) : Obj := ⟨(.type "tuple"), none, (.seq #[] 0), #[]⟩
noncomputable def o_316 (P : Params) : Obj := ⟨.none, none, (.func ⟨s_is_multi, s_KindQis_multi, (sArgs (mth 51 2)), (.stmts (sBody (mth 51 2))), (sScope (mth 51 2)), 0, [], .none, .none, .none, .none, none, .none, .none, 0⟩), #[]⟩
noncomputable def o_317 (P : Params) : Obj := ⟨(.type "code"), none, (.fields #[(.str s_is_multi 562), (.str s_KindQis_multi 563), (.str s_QclaimQcutQpy 564), (.int 178 0), (.int 1 0), (.int 0 0), (.int 0 0), (.int 3 0), (.ref 259), (.bool true), (.int 181 0), (.ref 260), .none, (.ref 261), (.ref 262), (.ref 263), (.int 566 0), (.int 178 0), (.str s_QclaimQcutQpy 567)]), #[]⟩
noncomputable def o_318 (P : Params) : Obj := ⟨(.type "function"), none, (.func ⟨s_is_multi, s_KindQis_multi, (sArgs (mth 51 2)), (.stmts (sBody (mth 51 2))), (sScope (mth 51 2)), 3, [], .none, .none, .none, (.str s_postkeepQparams 516), none, (.ref 264), .none, 0⟩), #[]⟩
noncomputable def o_319 (P : Params) : Obj := ⟨(.type "tuple"), none, (.seq #[] 0), #[]⟩
noncomputable def o_320 (P : Params) : Obj := ⟨.none, none, (.fields #[]), #[]⟩
noncomputable def o_321 (P : Params) : Obj := ⟨(.type "tuple"), none, (.seq #[(.str s_self 572)] 0), #[]⟩
noncomputable def o_322 (P : Params) : Obj := ⟨(.type "tuple"), none, (.seq #[] 0), #[]⟩
noncomputable def o_323 (P : Params) : Obj := ⟨.none, none, (.func ⟨s_is_letter, s_KindQis_letter, (sArgs (mth 51 3)), (.stmts (sBody (mth 51 3))), (sScope (mth 51 3)), 0, [], .none, .none, .none, .none, none, .none, .none, 0⟩), #[]⟩
noncomputable def o_324 (P : Params) : Obj := ⟨(.type "code"), none, (.fields #[(.str s_is_letter 569), (.str s_KindQis_letter 570), (.str s_QclaimQcutQpy 571), (.int 181 0), (.int 1 0), (.int 0 0), (.int 0 0), (.int 3 0), (.ref 266), (.bool true), (.int 181 0), (.ref 267), .none, (.ref 268), (.ref 269), (.ref 270), (.int 573 0), (.int 181 0), (.str s_QclaimQcutQpy 574)]), #[]⟩
noncomputable def o_325 (P : Params) : Obj := ⟨(.type "function"), none, (.func ⟨s_is_letter, s_KindQis_letter, (sArgs (mth 51 3)), (.stmts (sBody (mth 51 3))), (sScope (mth 51 3)), 3, [], .none, .none, .none, (.str s_postkeepQparams 516), none, (.ref 271), .none, 0⟩), #[]⟩
noncomputable def o_326 (P : Params) : Obj := ⟨(.type "tuple"), none, (.seq #[] 0), #[]⟩
noncomputable def o_327 (P : Params) : Obj := ⟨.none, none, (.fields #[]), #[]⟩
noncomputable def o_328 (P : Params) : Obj := ⟨(.type "tuple"), none, (.seq #[(.str s_self 579)] 0), #[]⟩
noncomputable def o_329 (P : Params) : Obj := ⟨(.type "tuple"), none, (.seq #[] 0), #[]⟩
noncomputable def o_330 (P : Params) : Obj := ⟨.none, none, (.func ⟨s_is_text, s_KindQis_text, (sArgs (mth 51 4)), (.stmts (sBody (mth 51 4))), (sScope (mth 51 4)), 0, [], .none, .none, .none, .none, none, .none, .none, 0⟩), #[]⟩
noncomputable def o_331 (P : Params) : Obj := ⟨(.type "code"), none, (.fields #[(.str s_is_text 576), (.str s_KindQis_text 577), (.str s_QclaimQcutQpy 578), (.int 184 0), (.int 1 0), (.int 0 0), (.int 0 0), (.int 3 0), (.ref 273), (.bool true), (.int 181 0), (.ref 274), .none, (.ref 275), (.ref 276), (.ref 277), (.int 580 0), (.int 184 0), (.str s_QclaimQcutQpy 581)]), #[]⟩
noncomputable def o_332 (P : Params) : Obj := ⟨(.type "function"), none, (.func ⟨s_is_text, s_KindQis_text, (sArgs (mth 51 4)), (.stmts (sBody (mth 51 4))), (sScope (mth 51 4)), 3, [], .none, .none, .none, (.str s_postkeepQparams 516), none, (.ref 278), .none, 0⟩), #[]⟩
noncomputable def o_333 (P : Params) : Obj := ⟨(.type "tuple"), none, (.seq #[(.str s_params 583), (.str s_sub 584), (.str s_top 585)] 0), #[]⟩
noncomputable def o_334 (P : Params) : Obj := ⟨(.type "dict"), none, (.dict #[K0 P s___module__ 541 (.str s_postkeepQparams 516), K0 P s___firstlineno__ 545 (.int 168 544), K0 P s___init__ 555 (.ref 253), K0 P s_told 561 (.ref 258), K0 P s_is_multi 568 (.ref 265), K0 P s_is_letter 575 (.ref 272), K0 P s_is_text 582 (.ref 279), K0 P s___static_attributes__ 586 (.ref 280), K0 P s___dict__ 588 (.ref 283), K0 P s___weakref__ 590 (.ref 284), K0 P s___doc__ 591 .none] 4), #[]⟩
noncomputable def o_335 (P : Params) : Obj := ⟨(.type "type"), none, (.cls ⟨s_Kind, [(.type "object")], [(.ref 282), (.type "object")], 281, s_Kind, true, [], [], false, none, false⟩), #[none, none, (some (.str s_Kind 534)), (some (.str s_Kind 542)), (some (.builtin "object.__new__")), (some (.bool true))]⟩
noncomputable def o_336 (P : Params) : Obj := ⟨(.type "getset_descriptor"), none, (.fields #[(.str s___dict__ 587), (.ref 282), (.builtin "function.__dict__"), (.builtin "function.__dict__#set")]), #[]⟩
noncomputable def o_337 (P : Params) : Obj := ⟨(.type "getset_descriptor"), none, (.fields #[(.str s___weakref__ 589), (.ref 282), (.builtin "ExceptionGroup.__weakref__"), .none]), #[]⟩
noncomputable def o_338 (P : Params) : Obj := ⟨(.type "super"), none, (.fields #[(.ref 282), (.ref 282), (.ref 282)]), #[]⟩
noncomputable def o_339 (P : Params) : Obj := ⟨(.type "builtin_function_or_method"), none, (.fields #[(.builtin "object.__init_subclass__"), (.ref 282)]), #[]⟩
noncomputable def o_340 (P : Params) : Obj := ⟨(.type "tuple"), none, (.seq #[] 0), #[]⟩
noncomputable def o_341 (P : Params) : Obj := ⟨.none, none, (.fields #[]), #[]⟩
noncomputable def o_342 (P : Params) : Obj := ⟨(.type "tuple"), none, (.seq #[(.str s_code 597)] 0), #[]⟩
noncomputable def o_343 (P : Params) : Obj := ⟨(.type "tuple"), none, (.seq #[] 0), #[]⟩
noncomputable def o_344 (P : Params) : Obj := ⟨.none, none, (.func ⟨s_is_token_code, s_is_token_code, (sArgs (stm 52)), (.stmts (sBody (stm 52))), (sScope (stm 52)), 0, [], .none, .none, .none, .none, none, .none, .none, 0⟩), #[]⟩
noncomputable def o_345 (P : Params) : Obj := ⟨(.type "code"), none, (.fields #[(.str s_is_token_code 594), (.str s_is_token_code 595), (.str s_QclaimQcutQpy 596), (.int 186 0), (.int 1 0), (.int 0 0), (.int 0 0), (.int 3 0), (.ref 287), (.bool true), (.int 181 0), (.ref 288), .none, (.ref 289), (.ref 290), (.ref 291), (.int 598 0), (.int 186 0), (.str s_QclaimQcutQpy 599)]), #[]⟩
noncomputable def o_346 (P : Params) : Obj := ⟨(.type "function"), none, (.func ⟨s_is_token_code, s_is_token_code, (sArgs (stm 52)), (.stmts (sBody (stm 52))), (sScope (stm 52)), 3, [], .none, .none, .none, (.str s_postkeepQparams 516), none, (.ref 292), .none, 0⟩), #[]⟩
noncomputable def o_347 (P : Params) : Obj := ⟨(.type "dict"), none, (.dict #[K0 P s___name__ 165 (.str s_postkeepQquoted 671), K0 P s___doc__ 166 .none, K0 P s___package__ 167 .none, K0 P s___loader__ 168 (.builtin "__main__.__loader__#opaque"), K0 P s___spec__ 169 .none, K0 P s___annotations__ 170 (.ref 6), K0 P s___builtins__ 171 (.ref 4), K0 P s___file__ 173 (.str s_QclaimQcutQpy 172), K0 P s___cached__ 174 .none, K0 P s_SIGNS 190 (.bytes #[65, 66, 67, 68, 69, 70, 71, 72, 73, 74, 75, 76, 77, 78, 79, 80, 81, 82, 83, 84, 85, 86, 87, 88, 89, 90, 97, 98, 99, 100, 101, 102, 103, 104, 105, 106, 107, 108, 109, 110, 111, 112, 113, 114, 115, 116, 117, 118, 119, 120, 121, 122, 48, 49, 50, 51, 52, 53, 54, 55, 56, 57, 43, 47] 189), K0 P s_PAD 192 (.int 61 191), K0 P s_LINE_END 194 (.bytes #[13, 10] 193), K0 P s_group_codes 200 (.ref 19), K0 P s_part_encoded 210 (.ref 26), K0 P s_one_line 217 (.ref 33), K0 P s_in_lines 223 (.ref 38), K0 P s_encoded 232 (.ref 46), K0 P s_PostError 274 (.ref 71), K0 P s_WordFault 290 (.ref 84), K0 P s_MimeFault 306 (.ref 96), K0 P s_CRLF 310 (.bytes #[13, 10] 309), K0 P s_RETURN 312 (.int 13 311), K0 P s_lower_code 319 (.ref 105), K0 P s_lower_text 325 (.ref 110), K0 P s_line_spans 342 (.ref 118), K0 P s_WHITE 347 (.ref 119), K0 P s_Field 391 (.ref 148), K0 P s_line_at 401 (.ref 159), K0 P s_is_name 409 (.ref 166), K0 P s_rows_of 420 (.ref 173), K0 P s_unfolded 427 (.ref 180), K0 P s_without_words 433 (.ref 185), K0 P s_is_sound 441 (.ref 192), K0 P s_write_fields 447 (.ref 197), K0 P s_ASCII 451 (.str s_usQascii 450), K0 P s_LATIN 453 (.str s_isoQ8859Q1 452), K0 P s_UTF8 455 (.str s_utfQ8 454), K0 P s_CHARSETS 456 (.ref 198), K0 P s_need_charset 463 (.ref 205), K0 P s_utf8_length 469 (.ref 210), K0 P s_utf8_octets 480 (.ref 217), K0 P s_has_sign 488 (.ref 224), K0 P s_octets_in 499 (.ref 231), K0 P s_NEVER_ESCAPED 505 (.ref 232), K0 P s_escaped_octets 515 (.ref 239), K0 P s_PER_CENT 519 (.int 37 518), K0 P s_BARRED 521 (.bytes #[40, 41, 60, 62, 64, 44, 59, 58, 92, 34, 47, 91, 93, 63, 61] 520), K0 P s_BARRED_IN_NAMES 523 (.bytes #[42, 39, 37] 522), K0 P s_HEX_FIGURES 525 (.bytes #[48, 49, 50, 51, 52, 53, 54, 55, 56, 57, 65, 66, 67, 68, 69, 70] 524), K0 P s_WIDTH 527 (.int 78 526), K0 P s_MOST_NAME 529 (.int 40 528), K0 P s_MOST_PARTS 531 (.int 1000 530), K0 P s_ROOM 533 (.int 66 532), K0 P s_Kind 593 (.ref 282), K0 P s_is_token_code 600 (.ref 293), K0 P s_is_token 606 (.ref 298), K0 P s_is_plain 612 (.ref 303), K0 P s_is_plain_params 613 (.ref 303), K0 P s_percent_encoded 622 (.ref 310), K0 P s_in_rows 632 (.ref 317), K0 P s_encoded_rows 638 (.ref 322), K0 P s_quoted_rows 644 (.ref 327), K0 P s_number_octets 650 (.ref 332), K0 P s_param_rows 656 (.ref 337), K0 P s_write_params 662 (.ref 342), K0 P s_write_kind 668 (.ref 347), K0 P s_PLAIN_ENCODING 670 (.str s_7bit 669), K0 P s_EQUALS 674 (.int 61 673), K0 P s_BLANK 676 (.int 32 675), K0 P s_TAB 678 (.int 9 677), K0 P s_LEAST_WIDTH 680 (.int 4 679), K0 P s_HEX 682 (.bytes #[48, 49, 50, 51, 52, 53, 54, 55, 56, 57, 65, 66, 67, 68, 69, 70] 681), K0 P s_quoted_code 689 (.ref 354)] 73), #[]⟩
noncomputable def o_348 (P : Params) : Obj := ⟨.none, none, (.fields #[(.int 5 0), (.int 0 0), (.ref 18), (.int 12 0), (.int 0 0), (.ref 25), (.int 17 0), (.int 0 0), (.ref 32), (.int 19 0), (.int 0 0), (.ref 37), (.int 23 0), (.int 0 0), (.ref 45), (.int 26 0), (.int 0 0), (.ref 52), (.int 35 0), (.int 0 0), (.ref 80), (.int 37 0), (.int 0 0), (.ref 92), (.int 42 0), (.int 0 0), (.ref 104), (.int 44 0), (.int 0 0), (.ref 109), (.int 46 0), (.int 0 0), (.ref 117), (.int 61 0), (.int 0 0), (.ref 125), (.int 72 0), (.int 0 0), (.ref 158), (.int 79 0), (.int 0 0), (.ref 165), (.int 84 0), (.int 0 0), (.ref 172), (.int 93 0), (.int 0 0), (.ref 179), (.int 95 0), (.int 0 0), (.ref 184), (.int 98 0), (.int 0 0), (.ref 191), (.int 105 0), (.int 0 0), (.ref 196), (.int 115 0), (.int 0 0), (.ref 204), (.int 118 0), (.int 0 0), (.ref 209), (.int 122 0), (.int 0 0), (.ref 216), (.int 132 0), (.int 0 0), (.ref 223), (.int 136 0), (.int 0 0), (.ref 230), (.int 150 0), (.int 0 0), (.ref 238), (.int 168 0), (.int 0 0), (.ref 245), (.int 186 0), (.int 0 0), (.ref 292), (.int 188 0), (.int 0 0), (.ref 297), (.int 190 0), (.int 0 0), (.ref 302), (.int 193 0), (.int 0 0), (.ref 309), (.int 201 0), (.int 0 0), (.ref 316), (.int 208 0), (.int 0 0), (.ref 321), (.int 216 0), (.int 0 0), (.ref 326), (.int 223 0), (.int 0 0), (.ref 331), (.int 225 0), (.int 0 0), (.ref 336), (.int 239 0), (.int 0 0), (.ref 341), (.int 244 0), (.int 0 0), (.ref 346), (.int 259 0), (.int 0 0), (.ref 353)]), #[]⟩
noncomputable def o_349 (P : Params) : Obj := ⟨(.type "tuple"), none, (.seq #[] 0), #[]⟩
noncomputable def o_350 (P : Params) : Obj := ⟨.none, none, (.fields #[]), #[]⟩
noncomputable def o_351 (P : Params) : Obj := ⟨.none, none, (.func ⟨s_is_token, s_is_token, (sArgs (stm 53)), (.stmts (sBody (stm 53))), (sScope (stm 53)), 0, [], .none, .none, .none, .none, none, .none, .none, 0⟩), #[]⟩
noncomputable def o_352 (P : Params) : Obj := ⟨(.type "code"), none, (.fields #[(.str s_is_token 601), (.str s_is_token 602), (.str s_QclaimQcutQpy 603), (.int 188 0), (.int 1 0), (.int 0 0), (.int 0 0), (.int 3 0), (.ref 294), (.bool true), (.int 181 0), (.ref 295), .none, .none, .none, (.ref 296), (.int 604 0), (.int 188 0), (.str s_QclaimQcutQpy 605)]), #[]⟩
noncomputable def o_353 (P : Params) : Obj := ⟨(.type "function"), none, (.func ⟨s_is_token, s_is_token, (sArgs (stm 53)), (.stmts (sBody (stm 53))), (sScope (stm 53)), 3, [], .none, .none, .none, (.str s_postkeepQparams 516), none, (.ref 297), .none, 0⟩), #[]⟩
noncomputable def o_354 (P : Params) : Obj := ⟨(.type "tuple"), none, (.seq #[] 0), #[]⟩
noncomputable def o_355 (P : Params) : Obj := ⟨.none, none, (.fields #[]), #[]⟩
noncomputable def o_356 (P : Params) : Obj := ⟨.none, none, (.func ⟨s_is_plain, s_is_plain, (sArgs (stm 54)), (.stmts (sBody (stm 54))), (sScope (stm 54)), 0, [], .none, .none, .none, .none, none, .none, .none, 0⟩), #[]⟩
noncomputable def o_357 (P : Params) : Obj := ⟨(.type "code"), none, (.fields #[(.str s_is_plain 607), (.str s_is_plain 608), (.str s_QclaimQcutQpy 609), (.int 190 0), (.int 1 0), (.int 0 0), (.int 0 0), (.int 3 0), (.ref 299), (.bool true), (.int 181 0), (.ref 300), .none, .none, .none, (.ref 301), (.int 610 0), (.int 190 0), (.str s_QclaimQcutQpy 611)]), #[]⟩
noncomputable def o_358 (P : Params) : Obj := ⟨(.type "function"), none, (.func ⟨s_is_plain, s_is_plain, (sArgs (stm 54)), (.stmts (sBody (stm 54))), (sScope (stm 54)), 3, [], .none, .none, .none, (.str s_postkeepQparams 516), none, (.ref 302), .none, 0⟩), #[]⟩
noncomputable def o_359 (P : Params) : Obj := ⟨(.type "tuple"), none, (.seq #[] 0), #[]⟩
noncomputable def o_360 (P : Params) : Obj := ⟨.none, none, (.fields #[]), #[]⟩
noncomputable def o_361 (P : Params) : Obj := ⟨(.type "tuple"), none, (.seq #[(.str s_octets 617), (.str s_found 618), (.str s_code 619)] 0), #[]⟩
noncomputable def o_362 (P : Params) : Obj := ⟨(.type "tuple"), none, (.seq #[] 0), #[]⟩
noncomputable def o_363 (P : Params) : Obj := ⟨.none, none, (.func ⟨s_percent_encoded, s_percent_encoded, (sArgs (stm 56)), (.stmts (sBody (stm 56))), (sScope (stm 56)), 0, [], .none, .none, .none, .none, none, .none, .none, 0⟩), #[]⟩
noncomputable def o_364 (P : Params) : Obj := ⟨(.type "code"), none, (.fields #[(.str s_percent_encoded 614), (.str s_percent_encoded 615), (.str s_QclaimQcutQpy 616), (.int 193 0), (.int 1 0), (.int 0 0), (.int 0 0), (.int 3 0), (.ref 304), (.bool true), (.int 181 0), (.ref 305), .none, (.ref 306), (.ref 307), (.ref 308), (.int 620 0), (.int 193 0), (.str s_QclaimQcutQpy 621)]), #[]⟩
noncomputable def o_365 (P : Params) : Obj := ⟨(.type "function"), none, (.func ⟨s_percent_encoded, s_percent_encoded, (sArgs (stm 56)), (.stmts (sBody (stm 56))), (sScope (stm 56)), 3, [], .none, .none, .none, (.str s_postkeepQparams 516), none, (.ref 309), .none, 0⟩), #[]⟩
noncomputable def o_366 (P : Params) : Obj := ⟨(.type "tuple"), none, (.seq #[] 0), #[]⟩
noncomputable def o_367 (P : Params) : Obj := ⟨.none, none, (.fields #[]), #[]⟩
noncomputable def o_368 (P : Params) : Obj := ⟨(.type "tuple"), none, (.seq #[(.str s_pieces 626), (.str s_room 627), (.str s_rows 628), (.str s_piece 629)] 0), #[]⟩
noncomputable def o_369 (P : Params) : Obj := ⟨(.type "tuple"), none, (.seq #[] 0), #[]⟩
noncomputable def o_370 (P : Params) : Obj := ⟨.none, none, (.func ⟨s_in_rows, s_in_rows, (sArgs (stm 57)), (.stmts (sBody (stm 57))), (sScope (stm 57)), 0, [], .none, .none, .none, .none, none, .none, .none, 0⟩), #[]⟩
noncomputable def o_371 (P : Params) : Obj := ⟨(.type "code"), none, (.fields #[(.str s_in_rows 623), (.str s_in_rows 624), (.str s_QclaimQcutQpy 625), (.int 201 0), (.int 2 0), (.int 0 0), (.int 0 0), (.int 3 0), (.ref 311), (.bool true), (.int 181 0), (.ref 312), .none, (.ref 313), (.ref 314), (.ref 315), (.int 630 0), (.int 201 0), (.str s_QclaimQcutQpy 631)]), #[]⟩
noncomputable def o_372 (P : Params) : Obj := ⟨(.type "function"), none, (.func ⟨s_in_rows, s_in_rows, (sArgs (stm 57)), (.stmts (sBody (stm 57))), (sScope (stm 57)), 3, [], .none, .none, .none, (.str s_postkeepQparams 516), none, (.ref 316), .none, 0⟩), #[]⟩
noncomputable def o_373 (P : Params) : Obj := ⟨(.type "tuple"), none, (.seq #[] 0), #[]⟩
noncomputable def o_374 (P : Params) : Obj := ⟨.none, none, (.fields #[]), #[]⟩
noncomputable def o_375 (P : Params) : Obj := ⟨.none, none, (.func ⟨s_encoded_rows, s_encoded_rows, (sArgs (stm 58)), (.stmts (sBody (stm 58))), (sScope (stm 58)), 0, [], .none, .none, .none, .none, none, .none, .none, 0⟩), #[]⟩
noncomputable def o_376 (P : Params) : Obj := ⟨(.type "code"), none, (.fields #[(.str s_encoded_rows 633), (.str s_encoded_rows 634), (.str s_QclaimQcutQpy 635), (.int 208 0), (.int 2 0), (.int 0 0), (.int 0 0), (.int 3 0), (.ref 318), (.bool true), (.int 181 0), (.ref 319), .none, .none, .none, (.ref 320), (.int 636 0), (.int 208 0), (.str s_QclaimQcutQpy 637)]), #[]⟩
noncomputable def o_377 (P : Params) : Obj := ⟨(.type "function"), none, (.func ⟨s_encoded_rows, s_encoded_rows, (sArgs (stm 58)), (.stmts (sBody (stm 58))), (sScope (stm 58)), 3, [], .none, .none, .none, (.str s_postkeepQparams 516), none, (.ref 321), .none, 0⟩), #[]⟩
noncomputable def o_378 (P : Params) : Obj := ⟨(.type "tuple"), none, (.seq #[] 0), #[]⟩
noncomputable def o_379 (P : Params) : Obj := ⟨.none, none, (.fields #[]), #[]⟩
noncomputable def o_380 (P : Params) : Obj := ⟨.none, none, (.func ⟨s_quoted_rows, s_quoted_rows, (sArgs (stm 59)), (.stmts (sBody (stm 59))), (sScope (stm 59)), 0, [], .none, .none, .none, .none, none, .none, .none, 0⟩), #[]⟩
noncomputable def o_381 (P : Params) : Obj := ⟨(.type "code"), none, (.fields #[(.str s_quoted_rows 639), (.str s_quoted_rows 640), (.str s_QclaimQcutQpy 641), (.int 216 0), (.int 2 0), (.int 0 0), (.int 0 0), (.int 3 0), (.ref 323), (.bool true), (.int 181 0), (.ref 324), .none, .none, .none, (.ref 325), (.int 642 0), (.int 216 0), (.str s_QclaimQcutQpy 643)]), #[]⟩
noncomputable def o_382 (P : Params) : Obj := ⟨(.type "function"), none, (.func ⟨s_quoted_rows, s_quoted_rows, (sArgs (stm 59)), (.stmts (sBody (stm 59))), (sScope (stm 59)), 3, [], .none, .none, .none, (.str s_postkeepQparams 516), none, (.ref 326), .none, 0⟩), #[]⟩
noncomputable def o_383 (P : Params) : Obj := ⟨(.type "tuple"), none, (.seq #[] 0), #[]⟩
noncomputable def o_384 (P : Params) : Obj := ⟨.none, none, (.fields #[]), #[]⟩
noncomputable def o_385 (P : Params) : Obj := ⟨.none, none, (.func ⟨s_number_octets, s_number_octets, (sArgs (stm 60)), (.stmts (sBody (stm 60))), (sScope (stm 60)), 0, [], .none, .none, .none, .none, none, .none, .none, 0⟩), #[]⟩
noncomputable def o_386 (P : Params) : Obj := ⟨(.type "code"), none, (.fields #[(.str s_number_octets 645), (.str s_number_octets 646), (.str s_QclaimQcutQpy 647), (.int 223 0), (.int 1 0), (.int 0 0), (.int 0 0), (.int 3 0), (.ref 328), (.bool true), (.int 181 0), (.ref 329), .none, .none, .none, (.ref 330), (.int 648 0), (.int 223 0), (.str s_QclaimQcutQpy 649)]), #[]⟩
noncomputable def o_387 (P : Params) : Obj := ⟨(.type "function"), none, (.func ⟨s_number_octets, s_number_octets, (sArgs (stm 60)), (.stmts (sBody (stm 60))), (sScope (stm 60)), 3, [], .none, .none, .none, (.str s_postkeepQparams 516), none, (.ref 331), .none, 0⟩), #[]⟩
noncomputable def o_388 (P : Params) : Obj := ⟨(.type "tuple"), none, (.seq #[] 0), #[]⟩
noncomputable def o_389 (P : Params) : Obj := ⟨.none, none, (.fields #[]), #[]⟩
noncomputable def o_390 (P : Params) : Obj := ⟨.none, none, (.func ⟨s_param_rows, s_param_rows, (sArgs (stm 61)), (.stmts (sBody (stm 61))), (sScope (stm 61)), 0, [], .none, .none, .none, .none, none, .none, .none, 0⟩), #[]⟩
noncomputable def o_391 (P : Params) : Obj := ⟨(.type "code"), none, (.fields #[(.str s_param_rows 651), (.str s_param_rows 652), (.str s_QclaimQcutQpy 653), (.int 225 0), (.int 2 0), (.int 0 0), (.int 0 0), (.int 3 0), (.ref 333), (.bool true), (.int 181 0), (.ref 334), .none, .none, .none, (.ref 335), (.int 654 0), (.int 225 0), (.str s_QclaimQcutQpy 655)]), #[]⟩
noncomputable def o_392 (P : Params) : Obj := ⟨(.type "function"), none, (.func ⟨s_param_rows, s_param_rows, (sArgs (stm 61)), (.stmts (sBody (stm 61))), (sScope (stm 61)), 3, [], .none, .none, .none, (.str s_postkeepQparams 516), none, (.ref 336), .none, 0⟩), #[]⟩
noncomputable def o_393 (P : Params) : Obj := ⟨(.type "tuple"), none, (.seq #[] 0), #[]⟩
noncomputable def o_394 (P : Params) : Obj := ⟨.none, none, (.fields #[]), #[]⟩
noncomputable def o_395 (P : Params) : Obj := ⟨.none, none, (.func ⟨s_write_params, s_write_params, (sArgs (stm 62)), (.stmts (sBody (stm 62))), (sScope (stm 62)), 0, [], .none, .none, .none, .none, none, .none, .none, 0⟩), #[]⟩
noncomputable def o_396 (P : Params) : Obj := ⟨(.type "code"), none, (.fields #[(.str s_write_params 657), (.str s_write_params 658), (.str s_QclaimQcutQpy 659), (.int 239 0), (.int 2 0), (.int 0 0), (.int 0 0), (.int 3 0), (.ref 338), (.bool true), (.int 181 0), (.ref 339), .none, .none, .none, (.ref 340), (.int 660 0), (.int 239 0), (.str s_QclaimQcutQpy 661)]), #[]⟩
noncomputable def o_397 (P : Params) : Obj := ⟨(.type "function"), none, (.func ⟨s_write_params, s_write_params, (sArgs (stm 62)), (.stmts (sBody (stm 62))), (sScope (stm 62)), 3, [], .none, .none, .none, (.str s_postkeepQparams 516), none, (.ref 341), .none, 0⟩), #[]⟩
noncomputable def o_398 (P : Params) : Obj := ⟨(.type "tuple"), none, (.seq #[] 0), #[]⟩
noncomputable def o_399 (P : Params) : Obj := ⟨.none, none, (.fields #[]), #[]⟩
noncomputable def o_400 (P : Params) : Obj := ⟨.none, none, (.func ⟨s_write_kind, s_write_kind, (sArgs (stm 63)), (.stmts (sBody (stm 63))), (sScope (stm 63)), 0, [], .none, .none, .none, .none, none, .none, .none, 0⟩), #[]⟩
noncomputable def o_401 (P : Params) : Obj := ⟨(.type "code"), none, (.fields #[(.str s_write_kind 663), (.str s_write_kind 664), (.str s_QclaimQcutQpy 665), (.int 244 0), (.int 1 0), (.int 0 0), (.int 0 0), (.int 3 0), (.ref 343), (.bool true), (.int 181 0), (.ref 344), .none, .none, .none, (.ref 345), (.int 666 0), (.int 244 0), (.str s_QclaimQcutQpy 667)]), #[]⟩
noncomputable def o_402 (P : Params) : Obj := ⟨(.type "function"), none, (.func ⟨s_write_kind, s_write_kind, (sArgs (stm 63)), (.stmts (sBody (stm 63))), (sScope (stm 63)), 3, [], .none, .none, .none, (.str s_postkeepQparams 516), none, (.ref 346), .none, 0⟩), #[]⟩
noncomputable def o_403 (P : Params) : Obj := ⟨(.type "tuple"), none, (.seq #[] 0), #[]⟩
noncomputable def o_404 (P : Params) : Obj := ⟨.none, none, (.fields #[]), #[]⟩
noncomputable def o_405 (P : Params) : Obj := ⟨(.type "tuple"), none, (.seq #[(.str s_code 686)] 0), #[]⟩
noncomputable def o_406 (P : Params) : Obj := ⟨(.type "tuple"), none, (.seq #[] 0), #[]⟩
noncomputable def o_407 (P : Params) : Obj := ⟨.none, none, (.func ⟨s_quoted_code, s_quoted_code, (sArgs (stm 71)), (.stmts (sBody (stm 71))), (sScope (stm 71)), 0, [], .none, .none, .none, .none, none, .none, .none, 0⟩), #[]⟩
noncomputable def o_408 (P : Params) : Obj := ⟨(.type "code"), none, (.fields #[(.str s_quoted_code 683), (.str s_quoted_code 684), (.str s_QclaimQcutQpy 685), (.int 259 0), (.int 1 0), (.int 0 0), (.int 0 0), (.int 3 0), (.ref 348), (.bool true), (.int 181 0), (.ref 349), .none, (.ref 350), (.ref 351), (.ref 352), (.int 687 0), (.int 259 0), (.str s_QclaimQcutQpy 688)]), #[]⟩
noncomputable def o_409 (P : Params) : Obj := ⟨(.type "function"), none, (.func ⟨s_quoted_code, s_quoted_code, (sArgs (stm 71)), (.stmts (sBody (stm 71))), (sScope (stm 71)), 3, [], .none, .none, .none, (.str s_postkeepQquoted 671), none, (.ref 353), .none, 0⟩), #[]⟩
noncomputable def o_410 (P : Params) : Obj := ⟨(.type "dict"), none, (.dict #[K0 P s___name__ 165 (.str s_postkeepQbuild 749), K0 P s___doc__ 166 .none, K0 P s___package__ 167 .none, K0 P s___loader__ 168 (.builtin "__main__.__loader__#opaque"), K0 P s___spec__ 169 .none, K0 P s___annotations__ 170 (.ref 6), K0 P s___builtins__ 171 (.ref 4), K0 P s___file__ 173 (.str s_QclaimQcutQpy 172), K0 P s___cached__ 174 .none, K0 P s_SIGNS 190 (.bytes #[65, 66, 67, 68, 69, 70, 71, 72, 73, 74, 75, 76, 77, 78, 79, 80, 81, 82, 83, 84, 85, 86, 87, 88, 89, 90, 97, 98, 99, 100, 101, 102, 103, 104, 105, 106, 107, 108, 109, 110, 111, 112, 113, 114, 115, 116, 117, 118, 119, 120, 121, 122, 48, 49, 50, 51, 52, 53, 54, 55, 56, 57, 43, 47] 189), K0 P s_PAD 192 (.int 61 191), K0 P s_LINE_END 194 (.bytes #[13, 10] 193), K0 P s_group_codes 200 (.ref 19), K0 P s_part_encoded 210 (.ref 26), K0 P s_one_line 217 (.ref 33), K0 P s_in_lines 223 (.ref 38), K0 P s_encoded 232 (.ref 46), K0 P s_PostError 274 (.ref 71), K0 P s_WordFault 290 (.ref 84), K0 P s_MimeFault 306 (.ref 96), K0 P s_CRLF 310 (.bytes #[13, 10] 309), K0 P s_RETURN 312 (.int 13 311), K0 P s_lower_code 319 (.ref 105), K0 P s_lower_text 325 (.ref 110), K0 P s_line_spans 342 (.ref 118), K0 P s_WHITE 347 (.ref 119), K0 P s_Field 391 (.ref 148), K0 P s_line_at 401 (.ref 159), K0 P s_is_name 409 (.ref 166), K0 P s_rows_of 420 (.ref 173), K0 P s_unfolded 427 (.ref 180), K0 P s_without_words 433 (.ref 185), K0 P s_is_sound 441 (.ref 192), K0 P s_write_fields 447 (.ref 197), K0 P s_ASCII 451 (.str s_usQascii 450), K0 P s_LATIN 453 (.str s_isoQ8859Q1 452), K0 P s_UTF8 455 (.str s_utfQ8 454), K0 P s_CHARSETS 456 (.ref 198), K0 P s_need_charset 463 (.ref 205), K0 P s_utf8_length 469 (.ref 210), K0 P s_utf8_octets 480 (.ref 217), K0 P s_has_sign 488 (.ref 224), K0 P s_octets_in 499 (.ref 231), K0 P s_NEVER_ESCAPED 505 (.ref 232), K0 P s_escaped_octets 515 (.ref 239), K0 P s_PER_CENT 519 (.int 37 518), K0 P s_BARRED 521 (.bytes #[40, 41, 60, 62, 64, 44, 59, 58, 92, 34, 47, 91, 93, 63, 61] 520), K0 P s_BARRED_IN_NAMES 523 (.bytes #[42, 39, 37] 522), K0 P s_HEX_FIGURES 525 (.bytes #[48, 49, 50, 51, 52, 53, 54, 55, 56, 57, 65, 66, 67, 68, 69, 70] 524), K0 P s_WIDTH 527 (.int 78 526), K0 P s_MOST_NAME 529 (.int 40 528), K0 P s_MOST_PARTS 531 (.int 1000 530), K0 P s_ROOM 533 (.int 66 532), K0 P s_Kind 593 (.ref 282), K0 P s_is_token_code 600 (.ref 293), K0 P s_is_token 606 (.ref 298), K0 P s_is_plain 612 (.ref 361), K0 P s_is_plain_params 613 (.ref 303), K0 P s_percent_encoded 622 (.ref 310), K0 P s_in_rows 632 (.ref 317), K0 P s_encoded_rows 638 (.ref 322), K0 P s_quoted_rows 644 (.ref 327), K0 P s_number_octets 650 (.ref 332), K0 P s_param_rows 656 (.ref 337), K0 P s_write_params 662 (.ref 342), K0 P s_write_kind 668 (.ref 347), K0 P s_PLAIN_ENCODING 670 (.str s_7bit 669), K0 P s_EQUALS 674 (.int 61 673), K0 P s_BLANK 676 (.int 32 675), K0 P s_TAB 678 (.int 9 677), K0 P s_LEAST_WIDTH 680 (.int 4 679), K0 P s_HEX 682 (.bytes #[48, 49, 50, 51, 52, 53, 54, 55, 56, 57, 65, 66, 67, 68, 69, 70] 681), K0 P s_quoted_code 689 (.ref 354), K0 P s_is_plain_quoted 697 (.ref 361), K0 P s_line_pieces 707 (.ref 368), K0 P s_soft_lines 719 (.ref 375), K0 P s_text_lines 727 (.ref 382), K0 P s_quoted_encoded 739 (.ref 390), K0 P s_joined_lines 748 (.ref 397), K0 P s_MOST_LINE 752 (.int 998 751), K0 P s_OWN_WORDS 756 (.ref 398), K0 P s_BOUNDARY_LEAD 758 (.str s_Q_part 757), K0 P s_fields_told 764 (.ref 403), K0 P s_bare_piece 771 (.ref 410)] 84), #[]⟩
noncomputable def o_411 (P : Params) : Obj := ⟨.none, none, (.fields #[(.int 5 0), (.int 0 0), (.ref 18), (.int 12 0), (.int 0 0), (.ref 25), (.int 17 0), (.int 0 0), (.ref 32), (.int 19 0), (.int 0 0), (.ref 37), (.int 23 0), (.int 0 0), (.ref 45), (.int 26 0), (.int 0 0), (.ref 52), (.int 35 0), (.int 0 0), (.ref 80), (.int 37 0), (.int 0 0), (.ref 92), (.int 42 0), (.int 0 0), (.ref 104), (.int 44 0), (.int 0 0), (.ref 109), (.int 46 0), (.int 0 0), (.ref 117), (.int 61 0), (.int 0 0), (.ref 125), (.int 72 0), (.int 0 0), (.ref 158), (.int 79 0), (.int 0 0), (.ref 165), (.int 84 0), (.int 0 0), (.ref 172), (.int 93 0), (.int 0 0), (.ref 179), (.int 95 0), (.int 0 0), (.ref 184), (.int 98 0), (.int 0 0), (.ref 191), (.int 105 0), (.int 0 0), (.ref 196), (.int 115 0), (.int 0 0), (.ref 204), (.int 118 0), (.int 0 0), (.ref 209), (.int 122 0), (.int 0 0), (.ref 216), (.int 132 0), (.int 0 0), (.ref 223), (.int 136 0), (.int 0 0), (.ref 230), (.int 150 0), (.int 0 0), (.ref 238), (.int 168 0), (.int 0 0), (.ref 245), (.int 186 0), (.int 0 0), (.ref 292), (.int 188 0), (.int 0 0), (.ref 297), (.int 190 0), (.int 0 0), (.ref 302), (.int 193 0), (.int 0 0), (.ref 309), (.int 201 0), (.int 0 0), (.ref 316), (.int 208 0), (.int 0 0), (.ref 321), (.int 216 0), (.int 0 0), (.ref 326), (.int 223 0), (.int 0 0), (.ref 331), (.int 225 0), (.int 0 0), (.ref 336), (.int 239 0), (.int 0 0), (.ref 341), (.int 244 0), (.int 0 0), (.ref 346), (.int 259 0), (.int 0 0), (.ref 353), (.int 261 0), (.int 0 0), (.ref 360), (.int 264 0), (.int 0 0), (.ref 367), (.int 273 0), (.int 0 0), (.ref 374), (.int 283 0), (.int 0 0), (.ref 381), (.int 285 0), (.int 0 0), (.ref 389), (.int 293 0), (.int 0 0), (.ref 396), (.int 304 0), (.int 0 0), (.ref 402), (.int 306 0), (.int 0 0), (.ref 409)]), #[]⟩
noncomputable def o_412 (P : Params) : Obj := ⟨(.type "tuple"), none, (.seq #[] 0), #[]⟩
noncomputable def o_413 (P : Params) : Obj := ⟨.none, none, (.fields #[]), #[]⟩
noncomputable def o_414 (P : Params) : Obj := ⟨(.type "tuple"), none, (.seq #[(.str s_code 693)] 0), #[]⟩
noncomputable def o_415 (P : Params) : Obj := ⟨(.type "tuple"), none, (.seq #[] 0), #[]⟩
noncomputable def o_416 (P : Params) : Obj := ⟨.none, none, (.func ⟨s_is_plain, s_is_plain, (sArgs (stm 72)), (.stmts (sBody (stm 72))), (sScope (stm 72)), 0, [], .none, .none, .none, .none, none, .none, .none, 0⟩), #[]⟩
noncomputable def o_417 (P : Params) : Obj := ⟨(.type "code"), none, (.fields #[(.str s_is_plain 690), (.str s_is_plain 691), (.str s_QclaimQcutQpy 692), (.int 261 0), (.int 1 0), (.int 0 0), (.int 0 0), (.int 3 0), (.ref 355), (.bool true), (.int 181 0), (.ref 356), .none, (.ref 357), (.ref 358), (.ref 359), (.int 694 0), (.int 261 0), (.str s_QclaimQcutQpy 695)]), #[]⟩
noncomputable def o_418 (P : Params) : Obj := ⟨(.type "function"), none, (.func ⟨s_is_plain, s_is_plain, (sArgs (stm 72)), (.stmts (sBody (stm 72))), (sScope (stm 72)), 3, [], .none, .none, .none, (.str s_postkeepQquoted 671), none, (.ref 360), .none, 0⟩), #[]⟩
noncomputable def o_419 (P : Params) : Obj := ⟨(.type "tuple"), none, (.seq #[] 0), #[]⟩
noncomputable def o_420 (P : Params) : Obj := ⟨.none, none, (.fields #[]), #[]⟩
noncomputable def o_421 (P : Params) : Obj := ⟨(.type "tuple"), none, (.seq #[(.str s_line 701), (.str s_pieces 702), (.str s_at 703), (.str s_is_white 704)] 0), #[]⟩
noncomputable def o_422 (P : Params) : Obj := ⟨(.type "tuple"), none, (.seq #[] 0), #[]⟩
noncomputable def o_423 (P : Params) : Obj := ⟨.none, none, (.func ⟨s_line_pieces, s_line_pieces, (sArgs (stm 74)), (.stmts (sBody (stm 74))), (sScope (stm 74)), 0, [], .none, .none, .none, .none, none, .none, .none, 0⟩), #[]⟩
noncomputable def o_424 (P : Params) : Obj := ⟨(.type "code"), none, (.fields #[(.str s_line_pieces 698), (.str s_line_pieces 699), (.str s_QclaimQcutQpy 700), (.int 264 0), (.int 1 0), (.int 0 0), (.int 0 0), (.int 3 0), (.ref 362), (.bool true), (.int 181 0), (.ref 363), .none, (.ref 364), (.ref 365), (.ref 366), (.int 705 0), (.int 264 0), (.str s_QclaimQcutQpy 706)]), #[]⟩
noncomputable def o_425 (P : Params) : Obj := ⟨(.type "function"), none, (.func ⟨s_line_pieces, s_line_pieces, (sArgs (stm 74)), (.stmts (sBody (stm 74))), (sScope (stm 74)), 3, [], .none, .none, .none, (.str s_postkeepQquoted 671), none, (.ref 367), .none, 0⟩), #[]⟩
noncomputable def o_426 (P : Params) : Obj := ⟨(.type "tuple"), none, (.seq #[] 0), #[]⟩
noncomputable def o_427 (P : Params) : Obj := ⟨.none, none, (.fields #[]), #[]⟩
noncomputable def o_428 (P : Params) : Obj := ⟨(.type "tuple"), none, (.seq #[(.str s_pieces 711), (.str s_width 712), (.str s_lines 713), (.str s_line 714), (.str s_at 715), (.str s_room 716)] 0), #[]⟩
noncomputable def o_429 (P : Params) : Obj := ⟨(.type "tuple"), none, (.seq #[] 0), #[]⟩
noncomputable def o_430 (P : Params) : Obj := ⟨.none, none, (.func ⟨s_soft_lines, s_soft_lines, (sArgs (stm 75)), (.stmts (sBody (stm 75))), (sScope (stm 75)), 0, [], .none, .none, .none, .none, none, .none, .none, 0⟩), #[]⟩
noncomputable def o_431 (P : Params) : Obj := ⟨(.type "code"), none, (.fields #[(.str s_soft_lines 708), (.str s_soft_lines 709), (.str s_QclaimQcutQpy 710), (.int 273 0), (.int 2 0), (.int 0 0), (.int 0 0), (.int 3 0), (.ref 369), (.bool true), (.int 181 0), (.ref 370), .none, (.ref 371), (.ref 372), (.ref 373), (.int 717 0), (.int 273 0), (.str s_QclaimQcutQpy 718)]), #[]⟩
noncomputable def o_432 (P : Params) : Obj := ⟨(.type "function"), none, (.func ⟨s_soft_lines, s_soft_lines, (sArgs (stm 75)), (.stmts (sBody (stm 75))), (sScope (stm 75)), 3, [], .none, .none, .none, (.str s_postkeepQquoted 671), none, (.ref 374), .none, 0⟩), #[]⟩
noncomputable def o_433 (P : Params) : Obj := ⟨(.type "tuple"), none, (.seq #[] 0), #[]⟩
noncomputable def o_434 (P : Params) : Obj := ⟨.none, none, (.fields #[]), #[]⟩
noncomputable def o_435 (P : Params) : Obj := ⟨(.type "tuple"), none, (.seq #[(.str s_octets 723), (.str s_is_text 724)] 0), #[]⟩
noncomputable def o_436 (P : Params) : Obj := ⟨(.type "tuple"), none, (.seq #[] 0), #[]⟩
noncomputable def o_437 (P : Params) : Obj := ⟨.none, none, (.func ⟨s_text_lines, s_text_lines, (sArgs (stm 76)), (.stmts (sBody (stm 76))), (sScope (stm 76)), 0, [], .none, .none, .none, .none, none, .none, .none, 0⟩), #[]⟩
noncomputable def o_438 (P : Params) : Obj := ⟨(.type "code"), none, (.fields #[(.str s_text_lines 720), (.str s_text_lines 721), (.str s_QclaimQcutQpy 722), (.int 283 0), (.int 2 0), (.int 0 0), (.int 0 0), (.int 3 0), (.ref 376), (.bool true), (.int 181 0), (.ref 377), .none, (.ref 378), (.ref 379), (.ref 380), (.int 725 0), (.int 283 0), (.str s_QclaimQcutQpy 726)]), #[]⟩
noncomputable def o_439 (P : Params) : Obj := ⟨(.type "function"), none, (.func ⟨s_text_lines, s_text_lines, (sArgs (stm 76)), (.stmts (sBody (stm 76))), (sScope (stm 76)), 3, [], .none, .none, .none, (.str s_postkeepQquoted 671), none, (.ref 381), .none, 0⟩), #[]⟩
noncomputable def o_440 (P : Params) : Obj := ⟨(.type "tuple"), none, (.seq #[(.bool true), (.int 76 728)] 0), #[]⟩
noncomputable def o_441 (P : Params) : Obj := ⟨(.type "tuple"), none, (.seq #[] 0), #[]⟩
noncomputable def o_442 (P : Params) : Obj := ⟨.none, none, (.fields #[]), #[]⟩
noncomputable def o_443 (P : Params) : Obj := ⟨(.type "tuple"), none, (.seq #[(.str s_octets 732), (.str s_is_text 733), (.str s_width 734), (.str s_lines 735), (.str s_line 736)] 0), #[]⟩
noncomputable def o_444 (P : Params) : Obj := ⟨(.type "tuple"), none, (.seq #[] 0), #[]⟩
noncomputable def o_445 (P : Params) : Obj := ⟨.none, none, (.func ⟨s_quoted_encoded, s_quoted_encoded, (sArgs (stm 77)), (.stmts (sBody (stm 77))), (sScope (stm 77)), 0, [], .none, .none, .none, .none, none, .none, .none, 0⟩), #[]⟩
noncomputable def o_446 (P : Params) : Obj := ⟨(.type "code"), none, (.fields #[(.str s_quoted_encoded 729), (.str s_quoted_encoded 730), (.str s_QclaimQcutQpy 731), (.int 285 0), (.int 3 0), (.int 0 0), (.int 0 0), (.int 3 0), (.ref 384), (.bool true), (.int 181 0), (.ref 385), .none, (.ref 386), (.ref 387), (.ref 388), (.int 737 0), (.int 285 0), (.str s_QclaimQcutQpy 738)]), #[]⟩
noncomputable def o_447 (P : Params) : Obj := ⟨(.type "function"), none, (.func ⟨s_quoted_encoded, s_quoted_encoded, (sArgs (stm 77)), (.stmts (sBody (stm 77))), (sScope (stm 77)), 3, [], (.ref 383), .none, .none, (.str s_postkeepQquoted 671), none, (.ref 389), .none, 0⟩), #[]⟩
noncomputable def o_448 (P : Params) : Obj := ⟨(.type "tuple"), none, (.seq #[] 0), #[]⟩
noncomputable def o_449 (P : Params) : Obj := ⟨.none, none, (.fields #[]), #[]⟩
noncomputable def o_450 (P : Params) : Obj := ⟨(.type "tuple"), none, (.seq #[(.str s_lines 743), (.str s_parts 744), (.str s_line 745)] 0), #[]⟩
noncomputable def o_451 (P : Params) : Obj := ⟨(.type "tuple"), none, (.seq #[] 0), #[]⟩
noncomputable def o_452 (P : Params) : Obj := ⟨.none, none, (.func ⟨s_joined_lines, s_joined_lines, (sArgs (stm 78)), (.stmts (sBody (stm 78))), (sScope (stm 78)), 0, [], .none, .none, .none, .none, none, .none, .none, 0⟩), #[]⟩
noncomputable def o_453 (P : Params) : Obj := ⟨(.type "code"), none, (.fields #[(.str s_joined_lines 740), (.str s_joined_lines 741), (.str s_QclaimQcutQpy 742), (.int 293 0), (.int 1 0), (.int 0 0), (.int 0 0), (.int 3 0), (.ref 391), (.bool true), (.int 181 0), (.ref 392), .none, (.ref 393), (.ref 394), (.ref 395), (.int 746 0), (.int 293 0), (.str s_QclaimQcutQpy 747)]), #[]⟩
noncomputable def o_454 (P : Params) : Obj := ⟨(.type "function"), none, (.func ⟨s_joined_lines, s_joined_lines, (sArgs (stm 78)), (.stmts (sBody (stm 78))), (sScope (stm 78)), 3, [], .none, .none, .none, (.str s_postkeepQquoted 671), none, (.ref 396), .none, 0⟩), #[]⟩
noncomputable def o_455 (P : Params) : Obj := ⟨(.type "tuple"), none, (.seq #[(.str s_contentQtype 753), (.str s_contentQtransferQencoding 754), (.str s_mimeQversion 755)] 0), #[]⟩
noncomputable def o_456 (P : Params) : Obj := ⟨(.type "tuple"), none, (.seq #[] 0), #[]⟩
noncomputable def o_457 (P : Params) : Obj := ⟨.none, none, (.fields #[]), #[]⟩
noncomputable def o_458 (P : Params) : Obj := ⟨.none, none, (.func ⟨s_fields_told, s_fields_told, (sArgs (stm 83)), (.stmts (sBody (stm 83))), (sScope (stm 83)), 0, [], .none, .none, .none, .none, none, .none, .none, 0⟩), #[]⟩
noncomputable def o_459 (P : Params) : Obj := ⟨(.type "code"), none, (.fields #[(.str s_fields_told 759), (.str s_fields_told 760), (.str s_QclaimQcutQpy 761), (.int 304 0), (.int 1 0), (.int 0 0), (.int 0 0), (.int 3 0), (.ref 399), (.bool true), (.int 181 0), (.ref 400), .none, .none, .none, (.ref 401), (.int 762 0), (.int 304 0), (.str s_QclaimQcutQpy 763)]), #[]⟩
noncomputable def o_460 (P : Params) : Obj := ⟨(.type "function"), none, (.func ⟨s_fields_told, s_fields_told, (sArgs (stm 83)), (.stmts (sBody (stm 83))), (sScope (stm 83)), 3, [], .none, .none, .none, (.str s_postkeepQbuild 749), none, (.ref 402), .none, 0⟩), #[]⟩
noncomputable def o_461 (P : Params) : Obj := ⟨(.type "tuple"), none, (.seq #[] 0), #[]⟩
noncomputable def o_462 (P : Params) : Obj := ⟨.none, none, (.fields #[]), #[]⟩
noncomputable def o_463 (P : Params) : Obj := ⟨(.type "tuple"), none, (.seq #[(.str s_told_piece 768)] 0), #[]⟩
noncomputable def o_464 (P : Params) : Obj := ⟨(.type "tuple"), none, (.seq #[] 0), #[]⟩
noncomputable def o_465 (P : Params) : Obj := ⟨.none, none, (.func ⟨s_bare_piece, s_bare_piece, (sArgs (stm 84)), (.stmts (sBody (stm 84))), (sScope (stm 84)), 0, [], .none, .none, .none, .none, none, .none, .none, 0⟩), #[]⟩
noncomputable def o_466 (P : Params) : Obj := ⟨(.type "code"), none, (.fields #[(.str s_bare_piece 765), (.str s_bare_piece 766), (.str s_QclaimQcutQpy 767), (.int 306 0), (.int 1 0), (.int 0 0), (.int 0 0), (.int 3 0), (.ref 404), (.bool true), (.int 181 0), (.ref 405), .none, (.ref 406), (.ref 407), (.ref 408), (.int 769 0), (.int 306 0), (.str s_QclaimQcutQpy 770)]), #[]⟩
noncomputable def o_467 (P : Params) : Obj := ⟨(.type "function"), none, (.func ⟨s_bare_piece, s_bare_piece, (sArgs (stm 84)), (.stmts (sBody (stm 84))), (sScope (stm 84)), 3, [], .none, .none, .none, (.str s_postkeepQbuild 749), none, (.ref 409), .none, 0⟩), #[]⟩
noncomputable def o_468 (P : Params) : Obj := ⟨(.type "dict"), none, (.dict #[K0 P s___name__ 165 (.str s_postkeepQbuild 749), K0 P s___doc__ 166 .none, K0 P s___package__ 167 .none, K0 P s___loader__ 168 (.builtin "__main__.__loader__#opaque"), K0 P s___spec__ 169 .none, K0 P s___annotations__ 170 (.ref 6), K0 P s___builtins__ 171 (.ref 4), K0 P s___file__ 173 (.str s_QclaimQcutQpy 172), K0 P s___cached__ 174 .none, K0 P s_SIGNS 190 (.bytes #[65, 66, 67, 68, 69, 70, 71, 72, 73, 74, 75, 76, 77, 78, 79, 80, 81, 82, 83, 84, 85, 86, 87, 88, 89, 90, 97, 98, 99, 100, 101, 102, 103, 104, 105, 106, 107, 108, 109, 110, 111, 112, 113, 114, 115, 116, 117, 118, 119, 120, 121, 122, 48, 49, 50, 51, 52, 53, 54, 55, 56, 57, 43, 47] 189), K0 P s_PAD 192 (.int 61 191), K0 P s_LINE_END 194 (.bytes #[13, 10] 193), K0 P s_group_codes 200 (.ref 19), K0 P s_part_encoded 210 (.ref 26), K0 P s_one_line 217 (.ref 33), K0 P s_in_lines 223 (.ref 38), K0 P s_encoded 232 (.ref 46), K0 P s_PostError 274 (.ref 71), K0 P s_WordFault 290 (.ref 84), K0 P s_MimeFault 306 (.ref 96), K0 P s_CRLF 310 (.bytes #[13, 10] 309), K0 P s_RETURN 312 (.int 13 311), K0 P s_lower_code 319 (.ref 105), K0 P s_lower_text 325 (.ref 110), K0 P s_line_spans 342 (.ref 118), K0 P s_WHITE 347 (.ref 119), K0 P s_Field 391 (.ref 148), K0 P s_line_at 401 (.ref 159), K0 P s_is_name 409 (.ref 166), K0 P s_rows_of 420 (.ref 173), K0 P s_unfolded 427 (.ref 180), K0 P s_without_words 433 (.ref 185), K0 P s_is_sound 441 (.ref 192), K0 P s_write_fields 447 (.ref 197), K0 P s_ASCII 451 (.str s_usQascii 450), K0 P s_LATIN 453 (.str s_isoQ8859Q1 452), K0 P s_UTF8 455 (.str s_utfQ8 454), K0 P s_CHARSETS 456 (.ref 198), K0 P s_need_charset 463 (.ref 205), K0 P s_utf8_length 469 (.ref 210), K0 P s_utf8_octets 480 (.ref 217), K0 P s_has_sign 488 (.ref 224), K0 P s_octets_in 499 (.ref 231), K0 P s_NEVER_ESCAPED 505 (.ref 232), K0 P s_escaped_octets 515 (.ref 239), K0 P s_PER_CENT 519 (.int 37 518), K0 P s_BARRED 521 (.bytes #[40, 41, 60, 62, 64, 44, 59, 58, 92, 34, 47, 91, 93, 63, 61] 520), K0 P s_BARRED_IN_NAMES 523 (.bytes #[42, 39, 37] 522), K0 P s_HEX_FIGURES 525 (.bytes #[48, 49, 50, 51, 52, 53, 54, 55, 56, 57, 65, 66, 67, 68, 69, 70] 524), K0 P s_WIDTH 527 (.int 78 526), K0 P s_MOST_NAME 529 (.int 40 528), K0 P s_MOST_PARTS 531 (.int 1000 530), K0 P s_ROOM 533 (.int 66 532), K0 P s_Kind 593 (.ref 282), K0 P s_is_token_code 600 (.ref 293), K0 P s_is_token 606 (.ref 298), K0 P s_is_plain 612 (.ref 361), K0 P s_is_plain_params 613 (.ref 303), K0 P s_percent_encoded 622 (.ref 310), K0 P s_in_rows 632 (.ref 317), K0 P s_encoded_rows 638 (.ref 322), K0 P s_quoted_rows 644 (.ref 327), K0 P s_number_octets 650 (.ref 332), K0 P s_param_rows 656 (.ref 337), K0 P s_write_params 662 (.ref 342), K0 P s_write_kind 668 (.ref 347), K0 P s_PLAIN_ENCODING 670 (.str s_7bit 669), K0 P s_EQUALS 674 (.int 61 673), K0 P s_BLANK 676 (.int 32 675), K0 P s_TAB 678 (.int 9 677), K0 P s_LEAST_WIDTH 680 (.int 4 679), K0 P s_HEX 682 (.bytes #[48, 49, 50, 51, 52, 53, 54, 55, 56, 57, 65, 66, 67, 68, 69, 70] 681), K0 P s_quoted_code 689 (.ref 354), K0 P s_is_plain_quoted 697 (.ref 361), K0 P s_line_pieces 707 (.ref 368), K0 P s_soft_lines 719 (.ref 375), K0 P s_text_lines 727 (.ref 382), K0 P s_quoted_encoded 739 (.ref 390), K0 P s_joined_lines 748 (.ref 397), K0 P s_MOST_LINE 752 (.int 998 751), K0 P s_OWN_WORDS 756 (.ref 398), K0 P s_BOUNDARY_LEAD 758 (.str s_Q_part 757), K0 P s_fields_told 764 (.ref 403), K0 P s_bare_piece 771 (.ref 410), K0 P s_Leaf 818 (.ref 443)] 85), #[]⟩
noncomputable def o_469 (P : Params) : Obj := ⟨.none, none, (.fields #[(.int 5 0), (.int 0 0), (.ref 18), (.int 12 0), (.int 0 0), (.ref 25), (.int 17 0), (.int 0 0), (.ref 32), (.int 19 0), (.int 0 0), (.ref 37), (.int 23 0), (.int 0 0), (.ref 45), (.int 26 0), (.int 0 0), (.ref 52), (.int 35 0), (.int 0 0), (.ref 80), (.int 37 0), (.int 0 0), (.ref 92), (.int 42 0), (.int 0 0), (.ref 104), (.int 44 0), (.int 0 0), (.ref 109), (.int 46 0), (.int 0 0), (.ref 117), (.int 61 0), (.int 0 0), (.ref 125), (.int 72 0), (.int 0 0), (.ref 158), (.int 79 0), (.int 0 0), (.ref 165), (.int 84 0), (.int 0 0), (.ref 172), (.int 93 0), (.int 0 0), (.ref 179), (.int 95 0), (.int 0 0), (.ref 184), (.int 98 0), (.int 0 0), (.ref 191), (.int 105 0), (.int 0 0), (.ref 196), (.int 115 0), (.int 0 0), (.ref 204), (.int 118 0), (.int 0 0), (.ref 209), (.int 122 0), (.int 0 0), (.ref 216), (.int 132 0), (.int 0 0), (.ref 223), (.int 136 0), (.int 0 0), (.ref 230), (.int 150 0), (.int 0 0), (.ref 238), (.int 168 0), (.int 0 0), (.ref 245), (.int 186 0), (.int 0 0), (.ref 292), (.int 188 0), (.int 0 0), (.ref 297), (.int 190 0), (.int 0 0), (.ref 302), (.int 193 0), (.int 0 0), (.ref 309), (.int 201 0), (.int 0 0), (.ref 316), (.int 208 0), (.int 0 0), (.ref 321), (.int 216 0), (.int 0 0), (.ref 326), (.int 223 0), (.int 0 0), (.ref 331), (.int 225 0), (.int 0 0), (.ref 336), (.int 239 0), (.int 0 0), (.ref 341), (.int 244 0), (.int 0 0), (.ref 346), (.int 259 0), (.int 0 0), (.ref 353), (.int 261 0), (.int 0 0), (.ref 360), (.int 264 0), (.int 0 0), (.ref 367), (.int 273 0), (.int 0 0), (.ref 374), (.int 283 0), (.int 0 0), (.ref 381), (.int 285 0), (.int 0 0), (.ref 389), (.int 293 0), (.int 0 0), (.ref 396), (.int 304 0), (.int 0 0), (.ref 402), (.int 306 0), (.int 0 0), (.ref 409), (.int 308 0), (.int 0 0), (.ref 416)]), #[]⟩
noncomputable def o_470 (P : Params) : Obj := ⟨(.type "tuple"), none, (.seq #[] 0), #[]⟩
noncomputable def o_471 (P : Params) : Obj := ⟨(.type "builtin_function_or_method"), none, (.fields #[(.builtin "type.__prepare__"), (.type "type")]), #[]⟩
noncomputable def o_472 (P : Params) : Obj := ⟨(.type "dict"), none, (.dict #[K0 P s___module__ 779 (.str s_postkeepQbuild 749), K0 P s___qualname__ 781 (.str s_Leaf 780), K0 P s___firstlineno__ 783 (.int 308 782), K0 P s___init__ 793 (.ref 426), K0 P s_told 800 (.ref 433), K0 P s_depth 807 (.ref 440), K0 P s___static_attributes__ 811 (.ref 441)] 7), #[]⟩
noncomputable def o_473 (P : Params) : Obj := ⟨(.type "tuple"), none, (.seq #[] 0), #[]⟩
noncomputable def o_474 (P : Params) : Obj := ⟨.none, none, (.fields #[(.int 310 0), (.int 4 0), (.ref 425), (.int 315 0), (.int 4 0), (.ref 432), (.int 318 0), (.int 4 0), (.ref 439)]), #[]⟩
noncomputable def o_475 (P : Params) : Obj := ⟨(.type "code"), none, (.fields #[(.str s_Leaf 774), (.str s_Leaf 775), (.str s_QclaimQcutQpy 776), (.int 308 0), (.int 0 0), (.int 0 0), (.int 0 0), (.int 0 0), (.ref 414), (.bool false), (.int 181 0), (.ref 415), .none, .none, .none, .none, (.int 777 0), (.int 308 0), (.str s_QclaimQcutQpy 778)]), #[]⟩
noncomputable def o_476 (P : Params) : Obj := ⟨(.type "frame"), none, .plain, #[(some (.ref 416)), (some (.ref 3)), (some (.ref 413)), none, (some (.str s_postkeepQbuild 749)), none, (some (.ref 0))]⟩
noncomputable def o_477 (P : Params) : Obj := ⟨(.type "tuple"), none, (.seq #[] 0), #[]⟩
noncomputable def o_478 (P : Params) : Obj := ⟨(.type "tuple"), none, (.seq #[(.ref 418)] 0), #[]⟩
noncomputable def o_479 (P : Params) : Obj := ⟨(.type "tuple"), none, (.seq #[] 0), #[]⟩
noncomputable def o_480 (P : Params) : Obj := ⟨.none, none, (.fields #[]), #[]⟩
noncomputable def o_481 (P : Params) : Obj := ⟨(.type "tuple"), none, (.seq #[(.str s_self 787), (.str s_kind 788), (.str s_octets 789), (.str s_fields 790)] 0), #[]⟩
noncomputable def o_482 (P : Params) : Obj := ⟨(.type "tuple"), none, (.seq #[] 0), #[]⟩
noncomputable def o_483 (P : Params) : Obj := ⟨.none, none, (.func ⟨s___init__, s_LeafQ__init__, (sArgs (mth 85 0)), (.stmts (sBody (mth 85 0))), (sScope (mth 85 0)), 0, [], .none, .none, .none, .none, none, .none, .none, 0⟩), #[]⟩
noncomputable def o_484 (P : Params) : Obj := ⟨(.type "code"), none, (.fields #[(.str s___init__ 784), (.str s_LeafQ__init__ 785), (.str s_QclaimQcutQpy 786), (.int 310 0), (.int 4 0), (.int 0 0), (.int 0 0), (.int 3 0), (.ref 420), (.bool true), (.int 181 0), (.ref 421), .none, (.ref 422), (.ref 423), (.ref 424), (.int 791 0), (.int 310 0), (.str s_QclaimQcutQpy 792)]), #[]⟩
noncomputable def o_485 (P : Params) : Obj := ⟨(.type "function"), none, (.func ⟨s___init__, s_LeafQ__init__, (sArgs (mth 85 0)), (.stmts (sBody (mth 85 0))), (sScope (mth 85 0)), 3, [], (.ref 419), .none, .none, (.str s_postkeepQbuild 749), none, (.ref 425), .none, 0⟩), #[]⟩
noncomputable def o_486 (P : Params) : Obj := ⟨(.type "tuple"), none, (.seq #[] 0), #[]⟩
noncomputable def o_487 (P : Params) : Obj := ⟨.none, none, (.fields #[]), #[]⟩
noncomputable def o_488 (P : Params) : Obj := ⟨(.type "tuple"), none, (.seq #[(.str s_self 797)] 0), #[]⟩
noncomputable def o_489 (P : Params) : Obj := ⟨(.type "tuple"), none, (.seq #[] 0), #[]⟩
noncomputable def o_490 (P : Params) : Obj := ⟨.none, none, (.func ⟨s_told, s_LeafQtold, (sArgs (mth 85 1)), (.stmts (sBody (mth 85 1))), (sScope (mth 85 1)), 0, [], .none, .none, .none, .none, none, .none, .none, 0⟩), #[]⟩
noncomputable def o_491 (P : Params) : Obj := ⟨(.type "code"), none, (.fields #[(.str s_told 794), (.str s_LeafQtold 795), (.str s_QclaimQcutQpy 796), (.int 315 0), (.int 1 0), (.int 0 0), (.int 0 0), (.int 3 0), (.ref 427), (.bool true), (.int 181 0), (.ref 428), .none, (.ref 429), (.ref 430), (.ref 431), (.int 798 0), (.int 315 0), (.str s_QclaimQcutQpy 799)]), #[]⟩
noncomputable def o_492 (P : Params) : Obj := ⟨(.type "function"), none, (.func ⟨s_told, s_LeafQtold, (sArgs (mth 85 1)), (.stmts (sBody (mth 85 1))), (sScope (mth 85 1)), 3, [], .none, .none, .none, (.str s_postkeepQbuild 749), none, (.ref 432), .none, 0⟩), #[]⟩
noncomputable def o_493 (P : Params) : Obj := ⟨(.type "tuple"), none, (.seq #[] 0), #[]⟩
noncomputable def o_494 (P : Params) : Obj := ⟨.none, none, (.fields #[]), #[]⟩
noncomputable def o_495 (P : Params) : Obj := ⟨(.type "tuple"), none, (.seq #[(.str s_self 804)] 0), #[]⟩
noncomputable def o_496 (P : Params) : Obj := ⟨(.type "tuple"), none, (.seq #[] 0), #[]⟩
noncomputable def o_497 (P : Params) : Obj := ⟨.none, none, (.func ⟨s_depth, s_LeafQdepth, (sArgs (mth 85 2)), (.stmts (sBody (mth 85 2))), (sScope (mth 85 2)), 0, [], .none, .none, .none, .none, none, .none, .none, 0⟩), #[]⟩
noncomputable def o_498 (P : Params) : Obj := ⟨(.type "code"), none, (.fields #[(.str s_depth 801), (.str s_LeafQdepth 802), (.str s_QclaimQcutQpy 803), (.int 318 0), (.int 1 0), (.int 0 0), (.int 0 0), (.int 3 0), (.ref 434), (.bool true), (.int 181 0), (.ref 435), .none, (.ref 436), (.ref 437), (.ref 438), (.int 805 0), (.int 318 0), (.str s_QclaimQcutQpy 806)]), #[]⟩
noncomputable def o_499 (P : Params) : Obj := ⟨(.type "function"), none, (.func ⟨s_depth, s_LeafQdepth, (sArgs (mth 85 2)), (.stmts (sBody (mth 85 2))), (sScope (mth 85 2)), 3, [], .none, .none, .none, (.str s_postkeepQbuild 749), none, (.ref 439), .none, 0⟩), #[]⟩
noncomputable def o_500 (P : Params) : Obj := ⟨(.type "tuple"), none, (.seq #[(.str s_fields 808), (.str s_kind 809), (.str s_octets 810)] 0), #[]⟩
noncomputable def o_501 (P : Params) : Obj := ⟨(.type "dict"), none, (.dict #[K0 P s___module__ 779 (.str s_postkeepQbuild 749), K0 P s___firstlineno__ 783 (.int 308 782), K0 P s___init__ 793 (.ref 426), K0 P s_told 800 (.ref 433), K0 P s_depth 807 (.ref 440), K0 P s___static_attributes__ 811 (.ref 441), K0 P s___dict__ 813 (.ref 444), K0 P s___weakref__ 815 (.ref 445), K0 P s___doc__ 816 .none] 4), #[]⟩
noncomputable def o_502 (P : Params) : Obj := ⟨(.type "type"), none, (.cls ⟨s_Leaf, [(.type "object")], [(.ref 443), (.type "object")], 442, s_Leaf, true, [], [], false, none, false⟩), #[none, none, (some (.str s_Leaf 772)), (some (.str s_Leaf 780)), (some (.builtin "object.__new__")), (some (.bool true))]⟩
noncomputable def o_503 (P : Params) : Obj := ⟨(.type "getset_descriptor"), none, (.fields #[(.str s___dict__ 812), (.ref 443), (.builtin "function.__dict__"), (.builtin "function.__dict__#set")]), #[]⟩
noncomputable def o_504 (P : Params) : Obj := ⟨(.type "getset_descriptor"), none, (.fields #[(.str s___weakref__ 814), (.ref 443), (.builtin "ExceptionGroup.__weakref__"), .none]), #[]⟩
noncomputable def o_505 (P : Params) : Obj := ⟨(.type "super"), none, (.fields #[(.ref 443), (.ref 443), (.ref 443)]), #[]⟩
noncomputable def o_506 (P : Params) : Obj := ⟨(.type "builtin_function_or_method"), none, (.fields #[(.builtin "object.__init_subclass__"), (.ref 443)]), #[]⟩
noncomputable def o_507 (P : Params) : Obj := ⟨(.type "dict"), none, (.dict #[K0 P s___name__ 165 (.str s_postkeepQbuild 749), K0 P s___doc__ 166 .none, K0 P s___package__ 167 .none, K0 P s___loader__ 168 (.builtin "__main__.__loader__#opaque"), K0 P s___spec__ 169 .none, K0 P s___annotations__ 170 (.ref 6), K0 P s___builtins__ 171 (.ref 4), K0 P s___file__ 173 (.str s_QclaimQcutQpy 172), K0 P s___cached__ 174 .none, K0 P s_SIGNS 190 (.bytes #[65, 66, 67, 68, 69, 70, 71, 72, 73, 74, 75, 76, 77, 78, 79, 80, 81, 82, 83, 84, 85, 86, 87, 88, 89, 90, 97, 98, 99, 100, 101, 102, 103, 104, 105, 106, 107, 108, 109, 110, 111, 112, 113, 114, 115, 116, 117, 118, 119, 120, 121, 122, 48, 49, 50, 51, 52, 53, 54, 55, 56, 57, 43, 47] 189), K0 P s_PAD 192 (.int 61 191), K0 P s_LINE_END 194 (.bytes #[13, 10] 193), K0 P s_group_codes 200 (.ref 19), K0 P s_part_encoded 210 (.ref 26), K0 P s_one_line 217 (.ref 33), K0 P s_in_lines 223 (.ref 38), K0 P s_encoded 232 (.ref 46), K0 P s_PostError 274 (.ref 71), K0 P s_WordFault 290 (.ref 84), K0 P s_MimeFault 306 (.ref 96), K0 P s_CRLF 310 (.bytes #[13, 10] 309), K0 P s_RETURN 312 (.int 13 311), K0 P s_lower_code 319 (.ref 105), K0 P s_lower_text 325 (.ref 110), K0 P s_line_spans 342 (.ref 118), K0 P s_WHITE 347 (.ref 119), K0 P s_Field 391 (.ref 148), K0 P s_line_at 401 (.ref 159), K0 P s_is_name 409 (.ref 166), K0 P s_rows_of 420 (.ref 173), K0 P s_unfolded 427 (.ref 180), K0 P s_without_words 433 (.ref 185), K0 P s_is_sound 441 (.ref 192), K0 P s_write_fields 447 (.ref 197), K0 P s_ASCII 451 (.str s_usQascii 450), K0 P s_LATIN 453 (.str s_isoQ8859Q1 452), K0 P s_UTF8 455 (.str s_utfQ8 454), K0 P s_CHARSETS 456 (.ref 198), K0 P s_need_charset 463 (.ref 205), K0 P s_utf8_length 469 (.ref 210), K0 P s_utf8_octets 480 (.ref 217), K0 P s_has_sign 488 (.ref 224), K0 P s_octets_in 499 (.ref 231), K0 P s_NEVER_ESCAPED 505 (.ref 232), K0 P s_escaped_octets 515 (.ref 239), K0 P s_PER_CENT 519 (.int 37 518), K0 P s_BARRED 521 (.bytes #[40, 41, 60, 62, 64, 44, 59, 58, 92, 34, 47, 91, 93, 63, 61] 520), K0 P s_BARRED_IN_NAMES 523 (.bytes #[42, 39, 37] 522), K0 P s_HEX_FIGURES 525 (.bytes #[48, 49, 50, 51, 52, 53, 54, 55, 56, 57, 65, 66, 67, 68, 69, 70] 524), K0 P s_WIDTH 527 (.int 78 526), K0 P s_MOST_NAME 529 (.int 40 528), K0 P s_MOST_PARTS 531 (.int 1000 530), K0 P s_ROOM 533 (.int 66 532), K0 P s_Kind 593 (.ref 282), K0 P s_is_token_code 600 (.ref 293), K0 P s_is_token 606 (.ref 298), K0 P s_is_plain 612 (.ref 361), K0 P s_is_plain_params 613 (.ref 303), K0 P s_percent_encoded 622 (.ref 310), K0 P s_in_rows 632 (.ref 317), K0 P s_encoded_rows 638 (.ref 322), K0 P s_quoted_rows 644 (.ref 327), K0 P s_number_octets 650 (.ref 332), K0 P s_param_rows 656 (.ref 337), K0 P s_write_params 662 (.ref 342), K0 P s_write_kind 668 (.ref 347), K0 P s_PLAIN_ENCODING 670 (.str s_7bit 669), K0 P s_EQUALS 674 (.int 61 673), K0 P s_BLANK 676 (.int 32 675), K0 P s_TAB 678 (.int 9 677), K0 P s_LEAST_WIDTH 680 (.int 4 679), K0 P s_HEX 682 (.bytes #[48, 49, 50, 51, 52, 53, 54, 55, 56, 57, 65, 66, 67, 68, 69, 70] 681), K0 P s_quoted_code 689 (.ref 354), K0 P s_is_plain_quoted 697 (.ref 361), K0 P s_line_pieces 707 (.ref 368), K0 P s_soft_lines 719 (.ref 375), K0 P s_text_lines 727 (.ref 382), K0 P s_quoted_encoded 739 (.ref 390), K0 P s_joined_lines 748 (.ref 397), K0 P s_MOST_LINE 752 (.int 998 751), K0 P s_OWN_WORDS 756 (.ref 398), K0 P s_BOUNDARY_LEAD 758 (.str s_Q_part 757), K0 P s_fields_told 764 (.ref 403), K0 P s_bare_piece 771 (.ref 410), K0 P s_Leaf 818 (.ref 443), K0 P s_Many 863 (.ref 476)] 86), #[]⟩
noncomputable def o_508 (P : Params) : Obj := ⟨.none, none, (.fields #[(.int 5 0), (.int 0 0), (.ref 18), (.int 12 0), (.int 0 0), (.ref 25), (.int 17 0), (.int 0 0), (.ref 32), (.int 19 0), (.int 0 0), (.ref 37), (.int 23 0), (.int 0 0), (.ref 45), (.int 26 0), (.int 0 0), (.ref 52), (.int 35 0), (.int 0 0), (.ref 80), (.int 37 0), (.int 0 0), (.ref 92), (.int 42 0), (.int 0 0), (.ref 104), (.int 44 0), (.int 0 0), (.ref 109), (.int 46 0), (.int 0 0), (.ref 117), (.int 61 0), (.int 0 0), (.ref 125), (.int 72 0), (.int 0 0), (.ref 158), (.int 79 0), (.int 0 0), (.ref 165), (.int 84 0), (.int 0 0), (.ref 172), (.int 93 0), (.int 0 0), (.ref 179), (.int 95 0), (.int 0 0), (.ref 184), (.int 98 0), (.int 0 0), (.ref 191), (.int 105 0), (.int 0 0), (.ref 196), (.int 115 0), (.int 0 0), (.ref 204), (.int 118 0), (.int 0 0), (.ref 209), (.int 122 0), (.int 0 0), (.ref 216), (.int 132 0), (.int 0 0), (.ref 223), (.int 136 0), (.int 0 0), (.ref 230), (.int 150 0), (.int 0 0), (.ref 238), (.int 168 0), (.int 0 0), (.ref 245), (.int 186 0), (.int 0 0), (.ref 292), (.int 188 0), (.int 0 0), (.ref 297), (.int 190 0), (.int 0 0), (.ref 302), (.int 193 0), (.int 0 0), (.ref 309), (.int 201 0), (.int 0 0), (.ref 316), (.int 208 0), (.int 0 0), (.ref 321), (.int 216 0), (.int 0 0), (.ref 326), (.int 223 0), (.int 0 0), (.ref 331), (.int 225 0), (.int 0 0), (.ref 336), (.int 239 0), (.int 0 0), (.ref 341), (.int 244 0), (.int 0 0), (.ref 346), (.int 259 0), (.int 0 0), (.ref 353), (.int 261 0), (.int 0 0), (.ref 360), (.int 264 0), (.int 0 0), (.ref 367), (.int 273 0), (.int 0 0), (.ref 374), (.int 283 0), (.int 0 0), (.ref 381), (.int 285 0), (.int 0 0), (.ref 389), (.int 293 0), (.int 0 0), (.ref 396), (.int 304 0), (.int 0 0), (.ref 402), (.int 306 0), (.int 0 0), (.ref 409), (.int 308 0), (.int 0 0), (.ref 416), (.int 320 0), (.int 0 0), (.ref 453)]), #[]⟩
noncomputable def o_509 (P : Params) : Obj := ⟨(.type "tuple"), none, (.seq #[] 0), #[]⟩
noncomputable def o_510 (P : Params) : Obj := ⟨(.type "builtin_function_or_method"), none, (.fields #[(.builtin "type.__prepare__"), (.type "type")]), #[]⟩
noncomputable def o_511 (P : Params) : Obj := ⟨(.type "dict"), none, (.dict #[K0 P s___module__ 826 (.str s_postkeepQbuild 749), K0 P s___qualname__ 828 (.str s_Many 827), K0 P s___firstlineno__ 830 (.int 320 829), K0 P s___init__ 840 (.ref 463), K0 P s_told 846 (.ref 468), K0 P s_depth 852 (.ref 473), K0 P s___static_attributes__ 856 (.ref 474)] 7), #[]⟩
noncomputable def o_512 (P : Params) : Obj := ⟨(.type "tuple"), none, (.seq #[] 0), #[]⟩
noncomputable def o_513 (P : Params) : Obj := ⟨.none, none, (.fields #[(.int 322 0), (.int 4 0), (.ref 462), (.int 327 0), (.int 4 0), (.ref 467), (.int 330 0), (.int 4 0), (.ref 472)]), #[]⟩
noncomputable def o_514 (P : Params) : Obj := ⟨(.type "code"), none, (.fields #[(.str s_Many 821), (.str s_Many 822), (.str s_QclaimQcutQpy 823), (.int 320 0), (.int 0 0), (.int 0 0), (.int 0 0), (.int 0 0), (.ref 451), (.bool false), (.int 181 0), (.ref 452), .none, .none, .none, .none, (.int 824 0), (.int 320 0), (.str s_QclaimQcutQpy 825)]), #[]⟩
noncomputable def o_515 (P : Params) : Obj := ⟨(.type "frame"), none, .plain, #[(some (.ref 453)), (some (.ref 3)), (some (.ref 450)), none, (some (.str s_postkeepQbuild 749)), none, (some (.ref 0))]⟩
noncomputable def o_516 (P : Params) : Obj := ⟨(.type "tuple"), none, (.seq #[] 0), #[]⟩
noncomputable def o_517 (P : Params) : Obj := ⟨(.type "tuple"), none, (.seq #[(.ref 455)] 0), #[]⟩
noncomputable def o_518 (P : Params) : Obj := ⟨(.type "tuple"), none, (.seq #[] 0), #[]⟩
noncomputable def o_519 (P : Params) : Obj := ⟨.none, none, (.fields #[]), #[]⟩
noncomputable def o_520 (P : Params) : Obj := ⟨(.type "tuple"), none, (.seq #[(.str s_self 834), (.str s_sub 835), (.str s_pieces 836), (.str s_fields 837)] 0), #[]⟩
noncomputable def o_521 (P : Params) : Obj := ⟨(.type "tuple"), none, (.seq #[] 0), #[]⟩
noncomputable def o_522 (P : Params) : Obj := ⟨.none, none, (.func ⟨s___init__, s_ManyQ__init__, (sArgs (mth 86 0)), (.stmts (sBody (mth 86 0))), (sScope (mth 86 0)), 0, [], .none, .none, .none, .none, none, .none, .none, 0⟩), #[]⟩
noncomputable def o_523 (P : Params) : Obj := ⟨(.type "code"), none, (.fields #[(.str s___init__ 831), (.str s_ManyQ__init__ 832), (.str s_QclaimQcutQpy 833), (.int 322 0), (.int 4 0), (.int 0 0), (.int 0 0), (.int 3 0), (.ref 457), (.bool true), (.int 181 0), (.ref 458), .none, (.ref 459), (.ref 460), (.ref 461), (.int 838 0), (.int 322 0), (.str s_QclaimQcutQpy 839)]), #[]⟩
noncomputable def o_524 (P : Params) : Obj := ⟨(.type "function"), none, (.func ⟨s___init__, s_ManyQ__init__, (sArgs (mth 86 0)), (.stmts (sBody (mth 86 0))), (sScope (mth 86 0)), 3, [], (.ref 456), .none, .none, (.str s_postkeepQbuild 749), none, (.ref 462), .none, 0⟩), #[]⟩
noncomputable def o_525 (P : Params) : Obj := ⟨(.type "tuple"), none, (.seq #[] 0), #[]⟩
noncomputable def o_526 (P : Params) : Obj := ⟨.none, none, (.fields #[]), #[]⟩
noncomputable def o_527 (P : Params) : Obj := ⟨.none, none, (.func ⟨s_told, s_ManyQtold, (sArgs (mth 86 1)), (.stmts (sBody (mth 86 1))), (sScope (mth 86 1)), 0, [], .none, .none, .none, .none, none, .none, .none, 0⟩), #[]⟩
noncomputable def o_528 (P : Params) : Obj := ⟨(.type "code"), none, (.fields #[(.str s_told 841), (.str s_ManyQtold 842), (.str s_QclaimQcutQpy 843), (.int 327 0), (.int 1 0), (.int 0 0), (.int 0 0), (.int 3 0), (.ref 464), (.bool true), (.int 181 0), (.ref 465), .none, .none, .none, (.ref 466), (.int 844 0), (.int 327 0), (.str s_QclaimQcutQpy 845)]), #[]⟩
noncomputable def o_529 (P : Params) : Obj := ⟨(.type "function"), none, (.func ⟨s_told, s_ManyQtold, (sArgs (mth 86 1)), (.stmts (sBody (mth 86 1))), (sScope (mth 86 1)), 3, [], .none, .none, .none, (.str s_postkeepQbuild 749), none, (.ref 467), .none, 0⟩), #[]⟩
noncomputable def o_530 (P : Params) : Obj := ⟨(.type "tuple"), none, (.seq #[] 0), #[]⟩
noncomputable def o_531 (P : Params) : Obj := ⟨.none, none, (.fields #[]), #[]⟩
noncomputable def o_532 (P : Params) : Obj := ⟨.none, none, (.func ⟨s_depth, s_ManyQdepth, (sArgs (mth 86 2)), (.stmts (sBody (mth 86 2))), (sScope (mth 86 2)), 0, [], .none, .none, .none, .none, none, .none, .none, 0⟩), #[]⟩
noncomputable def o_533 (P : Params) : Obj := ⟨(.type "code"), none, (.fields #[(.str s_depth 847), (.str s_ManyQdepth 848), (.str s_QclaimQcutQpy 849), (.int 330 0), (.int 1 0), (.int 0 0), (.int 0 0), (.int 3 0), (.ref 469), (.bool true), (.int 181 0), (.ref 470), .none, .none, .none, (.ref 471), (.int 850 0), (.int 330 0), (.str s_QclaimQcutQpy 851)]), #[]⟩
noncomputable def o_534 (P : Params) : Obj := ⟨(.type "function"), none, (.func ⟨s_depth, s_ManyQdepth, (sArgs (mth 86 2)), (.stmts (sBody (mth 86 2))), (sScope (mth 86 2)), 3, [], .none, .none, .none, (.str s_postkeepQbuild 749), none, (.ref 472), .none, 0⟩), #[]⟩
noncomputable def o_535 (P : Params) : Obj := ⟨(.type "tuple"), none, (.seq #[(.str s_fields 853), (.str s_pieces 854), (.str s_sub 855)] 0), #[]⟩
noncomputable def o_536 (P : Params) : Obj := ⟨(.type "dict"), none, (.dict #[K0 P s___module__ 826 (.str s_postkeepQbuild 749), K0 P s___firstlineno__ 830 (.int 320 829), K0 P s___init__ 840 (.ref 463), K0 P s_told 846 (.ref 468), K0 P s_depth 852 (.ref 473), K0 P s___static_attributes__ 856 (.ref 474), K0 P s___dict__ 858 (.ref 477), K0 P s___weakref__ 860 (.ref 478), K0 P s___doc__ 861 .none] 4), #[]⟩
noncomputable def o_537 (P : Params) : Obj := ⟨(.type "type"), none, (.cls ⟨s_Many, [(.type "object")], [(.ref 476), (.type "object")], 475, s_Many, true, [], [], false, none, false⟩), #[none, none, (some (.str s_Many 819)), (some (.str s_Many 827)), (some (.builtin "object.__new__")), (some (.bool true))]⟩
noncomputable def o_538 (P : Params) : Obj := ⟨(.type "getset_descriptor"), none, (.fields #[(.str s___dict__ 857), (.ref 476), (.builtin "function.__dict__"), (.builtin "function.__dict__#set")]), #[]⟩
noncomputable def o_539 (P : Params) : Obj := ⟨(.type "getset_descriptor"), none, (.fields #[(.str s___weakref__ 859), (.ref 476), (.builtin "ExceptionGroup.__weakref__"), .none]), #[]⟩
noncomputable def o_540 (P : Params) : Obj := ⟨(.type "super"), none, (.fields #[(.ref 476), (.ref 476), (.ref 476)]), #[]⟩
noncomputable def o_541 (P : Params) : Obj := ⟨(.type "builtin_function_or_method"), none, (.fields #[(.builtin "object.__init_subclass__"), (.ref 476)]), #[]⟩
noncomputable def o_542 (P : Params) : Obj := ⟨(.type "dict"), none, (.dict #[K0 P s___name__ 165 (.str s_postkeepQbuild 749), K0 P s___doc__ 166 .none, K0 P s___package__ 167 .none, K0 P s___loader__ 168 (.builtin "__main__.__loader__#opaque"), K0 P s___spec__ 169 .none, K0 P s___annotations__ 170 (.ref 6), K0 P s___builtins__ 171 (.ref 4), K0 P s___file__ 173 (.str s_QclaimQcutQpy 172), K0 P s___cached__ 174 .none, K0 P s_SIGNS 190 (.bytes #[65, 66, 67, 68, 69, 70, 71, 72, 73, 74, 75, 76, 77, 78, 79, 80, 81, 82, 83, 84, 85, 86, 87, 88, 89, 90, 97, 98, 99, 100, 101, 102, 103, 104, 105, 106, 107, 108, 109, 110, 111, 112, 113, 114, 115, 116, 117, 118, 119, 120, 121, 122, 48, 49, 50, 51, 52, 53, 54, 55, 56, 57, 43, 47] 189), K0 P s_PAD 192 (.int 61 191), K0 P s_LINE_END 194 (.bytes #[13, 10] 193), K0 P s_group_codes 200 (.ref 19), K0 P s_part_encoded 210 (.ref 26), K0 P s_one_line 217 (.ref 33), K0 P s_in_lines 223 (.ref 38), K0 P s_encoded 232 (.ref 46), K0 P s_PostError 274 (.ref 71), K0 P s_WordFault 290 (.ref 84), K0 P s_MimeFault 306 (.ref 96), K0 P s_CRLF 310 (.bytes #[13, 10] 309), K0 P s_RETURN 312 (.int 13 311), K0 P s_lower_code 319 (.ref 105), K0 P s_lower_text 325 (.ref 110), K0 P s_line_spans 342 (.ref 118), K0 P s_WHITE 347 (.ref 119), K0 P s_Field 391 (.ref 148), K0 P s_line_at 401 (.ref 159), K0 P s_is_name 409 (.ref 166), K0 P s_rows_of 420 (.ref 173), K0 P s_unfolded 427 (.ref 180), K0 P s_without_words 433 (.ref 185), K0 P s_is_sound 441 (.ref 192), K0 P s_write_fields 447 (.ref 197), K0 P s_ASCII 451 (.str s_usQascii 450), K0 P s_LATIN 453 (.str s_isoQ8859Q1 452), K0 P s_UTF8 455 (.str s_utfQ8 454), K0 P s_CHARSETS 456 (.ref 198), K0 P s_need_charset 463 (.ref 205), K0 P s_utf8_length 469 (.ref 210), K0 P s_utf8_octets 480 (.ref 217), K0 P s_has_sign 488 (.ref 224), K0 P s_octets_in 499 (.ref 231), K0 P s_NEVER_ESCAPED 505 (.ref 232), K0 P s_escaped_octets 515 (.ref 239), K0 P s_PER_CENT 519 (.int 37 518), K0 P s_BARRED 521 (.bytes #[40, 41, 60, 62, 64, 44, 59, 58, 92, 34, 47, 91, 93, 63, 61] 520), K0 P s_BARRED_IN_NAMES 523 (.bytes #[42, 39, 37] 522), K0 P s_HEX_FIGURES 525 (.bytes #[48, 49, 50, 51, 52, 53, 54, 55, 56, 57, 65, 66, 67, 68, 69, 70] 524), K0 P s_WIDTH 527 (.int 78 526), K0 P s_MOST_NAME 529 (.int 40 528), K0 P s_MOST_PARTS 531 (.int 1000 530), K0 P s_ROOM 533 (.int 66 532), K0 P s_Kind 593 (.ref 282), K0 P s_is_token_code 600 (.ref 293), K0 P s_is_token 606 (.ref 298), K0 P s_is_plain 612 (.ref 361), K0 P s_is_plain_params 613 (.ref 303), K0 P s_percent_encoded 622 (.ref 310), K0 P s_in_rows 632 (.ref 317), K0 P s_encoded_rows 638 (.ref 322), K0 P s_quoted_rows 644 (.ref 327), K0 P s_number_octets 650 (.ref 332), K0 P s_param_rows 656 (.ref 337), K0 P s_write_params 662 (.ref 342), K0 P s_write_kind 668 (.ref 347), K0 P s_PLAIN_ENCODING 670 (.str s_7bit 669), K0 P s_EQUALS 674 (.int 61 673), K0 P s_BLANK 676 (.int 32 675), K0 P s_TAB 678 (.int 9 677), K0 P s_LEAST_WIDTH 680 (.int 4 679), K0 P s_HEX 682 (.bytes #[48, 49, 50, 51, 52, 53, 54, 55, 56, 57, 65, 66, 67, 68, 69, 70] 681), K0 P s_quoted_code 689 (.ref 354), K0 P s_is_plain_quoted 697 (.ref 361), K0 P s_line_pieces 707 (.ref 368), K0 P s_soft_lines 719 (.ref 375), K0 P s_text_lines 727 (.ref 382), K0 P s_quoted_encoded 739 (.ref 390), K0 P s_joined_lines 748 (.ref 397), K0 P s_MOST_LINE 752 (.int 998 751), K0 P s_OWN_WORDS 756 (.ref 398), K0 P s_BOUNDARY_LEAD 758 (.str s_Q_part 757), K0 P s_fields_told 764 (.ref 403), K0 P s_bare_piece 771 (.ref 410), K0 P s_Leaf 818 (.ref 443), K0 P s_Many 863 (.ref 476), K0 P s_Letter822 909 (.ref 513), K0 P s_is_seven_bit 915 (.ref 522), K0 P s_choose_encoding 923 (.ref 529), K0 P s_in_encoding 932 (.ref 536)] 90), #[]⟩
noncomputable def o_543 (P : Params) : Obj := ⟨.none, none, (.fields #[(.int 5 0), (.int 0 0), (.ref 18), (.int 12 0), (.int 0 0), (.ref 25), (.int 17 0), (.int 0 0), (.ref 32), (.int 19 0), (.int 0 0), (.ref 37), (.int 23 0), (.int 0 0), (.ref 45), (.int 26 0), (.int 0 0), (.ref 52), (.int 35 0), (.int 0 0), (.ref 80), (.int 37 0), (.int 0 0), (.ref 92), (.int 42 0), (.int 0 0), (.ref 104), (.int 44 0), (.int 0 0), (.ref 109), (.int 46 0), (.int 0 0), (.ref 117), (.int 61 0), (.int 0 0), (.ref 125), (.int 72 0), (.int 0 0), (.ref 158), (.int 79 0), (.int 0 0), (.ref 165), (.int 84 0), (.int 0 0), (.ref 172), (.int 93 0), (.int 0 0), (.ref 179), (.int 95 0), (.int 0 0), (.ref 184), (.int 98 0), (.int 0 0), (.ref 191), (.int 105 0), (.int 0 0), (.ref 196), (.int 115 0), (.int 0 0), (.ref 204), (.int 118 0), (.int 0 0), (.ref 209), (.int 122 0), (.int 0 0), (.ref 216), (.int 132 0), (.int 0 0), (.ref 223), (.int 136 0), (.int 0 0), (.ref 230), (.int 150 0), (.int 0 0), (.ref 238), (.int 168 0), (.int 0 0), (.ref 245), (.int 186 0), (.int 0 0), (.ref 292), (.int 188 0), (.int 0 0), (.ref 297), (.int 190 0), (.int 0 0), (.ref 302), (.int 193 0), (.int 0 0), (.ref 309), (.int 201 0), (.int 0 0), (.ref 316), (.int 208 0), (.int 0 0), (.ref 321), (.int 216 0), (.int 0 0), (.ref 326), (.int 223 0), (.int 0 0), (.ref 331), (.int 225 0), (.int 0 0), (.ref 336), (.int 239 0), (.int 0 0), (.ref 341), (.int 244 0), (.int 0 0), (.ref 346), (.int 259 0), (.int 0 0), (.ref 353), (.int 261 0), (.int 0 0), (.ref 360), (.int 264 0), (.int 0 0), (.ref 367), (.int 273 0), (.int 0 0), (.ref 374), (.int 283 0), (.int 0 0), (.ref 381), (.int 285 0), (.int 0 0), (.ref 389), (.int 293 0), (.int 0 0), (.ref 396), (.int 304 0), (.int 0 0), (.ref 402), (.int 306 0), (.int 0 0), (.ref 409), (.int 308 0), (.int 0 0), (.ref 416), (.int 320 0), (.int 0 0), (.ref 453), (.int 332 0), (.int 0 0), (.ref 486), (.int 344 0), (.int 0 0), (.ref 521), (.int 352 0), (.int 0 0), (.ref 528), (.int 356 0), (.int 0 0), (.ref 535)]), #[]⟩
noncomputable def o_544 (P : Params) : Obj := ⟨(.type "tuple"), none, (.seq #[] 0), #[]⟩
noncomputable def o_545 (P : Params) : Obj := ⟨(.type "builtin_function_or_method"), none, (.fields #[(.builtin "type.__prepare__"), (.type "type")]), #[]⟩
noncomputable def o_546 (P : Params) : Obj := ⟨(.type "dict"), none, (.dict #[K0 P s___module__ 871 (.str s_postkeepQbuild 749), K0 P s___qualname__ 873 (.str s_Letter822 872), K0 P s___firstlineno__ 875 (.int 332 874), K0 P s___init__ 884 (.ref 496), K0 P s_told 892 (.ref 503), K0 P s_depth 899 (.ref 510), K0 P s___static_attributes__ 902 (.ref 511)] 7), #[]⟩
noncomputable def o_547 (P : Params) : Obj := ⟨(.type "tuple"), none, (.seq #[] 0), #[]⟩
noncomputable def o_548 (P : Params) : Obj := ⟨.none, none, (.fields #[(.int 334 0), (.int 4 0), (.ref 495), (.int 338 0), (.int 4 0), (.ref 502), (.int 342 0), (.int 4 0), (.ref 509)]), #[]⟩
noncomputable def o_549 (P : Params) : Obj := ⟨(.type "code"), none, (.fields #[(.str s_Letter822 866), (.str s_Letter822 867), (.str s_QclaimQcutQpy 868), (.int 332 0), (.int 0 0), (.int 0 0), (.int 0 0), (.int 0 0), (.ref 484), (.bool false), (.int 181 0), (.ref 485), .none, .none, .none, .none, (.int 869 0), (.int 332 0), (.str s_QclaimQcutQpy 870)]), #[]⟩
noncomputable def o_550 (P : Params) : Obj := ⟨(.type "frame"), none, .plain, #[(some (.ref 486)), (some (.ref 3)), (some (.ref 483)), none, (some (.str s_postkeepQbuild 749)), none, (some (.ref 0))]⟩
noncomputable def o_551 (P : Params) : Obj := ⟨(.type "tuple"), none, (.seq #[] 0), #[]⟩
noncomputable def o_552 (P : Params) : Obj := ⟨(.type "tuple"), none, (.seq #[(.ref 488)] 0), #[]⟩
noncomputable def o_553 (P : Params) : Obj := ⟨(.type "tuple"), none, (.seq #[] 0), #[]⟩
noncomputable def o_554 (P : Params) : Obj := ⟨.none, none, (.fields #[]), #[]⟩
noncomputable def o_555 (P : Params) : Obj := ⟨(.type "tuple"), none, (.seq #[(.str s_self 879), (.str s_piece 880), (.str s_fields 881)] 0), #[]⟩
noncomputable def o_556 (P : Params) : Obj := ⟨(.type "tuple"), none, (.seq #[] 0), #[]⟩
noncomputable def o_557 (P : Params) : Obj := ⟨.none, none, (.func ⟨s___init__, s_Letter822Q__init__, (sArgs (mth 87 0)), (.stmts (sBody (mth 87 0))), (sScope (mth 87 0)), 0, [], .none, .none, .none, .none, none, .none, .none, 0⟩), #[]⟩
noncomputable def o_558 (P : Params) : Obj := ⟨(.type "code"), none, (.fields #[(.str s___init__ 876), (.str s_Letter822Q__init__ 877), (.str s_QclaimQcutQpy 878), (.int 334 0), (.int 3 0), (.int 0 0), (.int 0 0), (.int 3 0), (.ref 490), (.bool true), (.int 181 0), (.ref 491), .none, (.ref 492), (.ref 493), (.ref 494), (.int 882 0), (.int 334 0), (.str s_QclaimQcutQpy 883)]), #[]⟩
noncomputable def o_559 (P : Params) : Obj := ⟨(.type "function"), none, (.func ⟨s___init__, s_Letter822Q__init__, (sArgs (mth 87 0)), (.stmts (sBody (mth 87 0))), (sScope (mth 87 0)), 3, [], (.ref 489), .none, .none, (.str s_postkeepQbuild 749), none, (.ref 495), .none, 0⟩), #[]⟩
noncomputable def o_560 (P : Params) : Obj := ⟨(.type "tuple"), none, (.seq #[] 0), #[]⟩
noncomputable def o_561 (P : Params) : Obj := ⟨.none, none, (.fields #[]), #[]⟩
noncomputable def o_562 (P : Params) : Obj := ⟨(.type "tuple"), none, (.seq #[(.str s_self 888), (.str s_rest 889)] 0), #[]⟩
noncomputable def o_563 (P : Params) : Obj := ⟨(.type "tuple"), none, (.seq #[] 0), #[]⟩
noncomputable def o_564 (P : Params) : Obj := ⟨.none, none, (.func ⟨s_told, s_Letter822Qtold, (sArgs (mth 87 1)), (.stmts (sBody (mth 87 1))), (sScope (mth 87 1)), 0, [], .none, .none, .none, .none, none, .none, .none, 0⟩), #[]⟩
noncomputable def o_565 (P : Params) : Obj := ⟨(.type "code"), none, (.fields #[(.str s_told 885), (.str s_Letter822Qtold 886), (.str s_QclaimQcutQpy 887), (.int 338 0), (.int 1 0), (.int 0 0), (.int 0 0), (.int 3 0), (.ref 497), (.bool true), (.int 181 0), (.ref 498), .none, (.ref 499), (.ref 500), (.ref 501), (.int 890 0), (.int 338 0), (.str s_QclaimQcutQpy 891)]), #[]⟩
noncomputable def o_566 (P : Params) : Obj := ⟨(.type "function"), none, (.func ⟨s_told, s_Letter822Qtold, (sArgs (mth 87 1)), (.stmts (sBody (mth 87 1))), (sScope (mth 87 1)), 3, [], .none, .none, .none, (.str s_postkeepQbuild 749), none, (.ref 502), .none, 0⟩), #[]⟩
noncomputable def o_567 (P : Params) : Obj := ⟨(.type "tuple"), none, (.seq #[] 0), #[]⟩
noncomputable def o_568 (P : Params) : Obj := ⟨.none, none, (.fields #[]), #[]⟩
noncomputable def o_569 (P : Params) : Obj := ⟨(.type "tuple"), none, (.seq #[(.str s_self 896)] 0), #[]⟩
noncomputable def o_570 (P : Params) : Obj := ⟨(.type "tuple"), none, (.seq #[] 0), #[]⟩
noncomputable def o_571 (P : Params) : Obj := ⟨.none, none, (.func ⟨s_depth, s_Letter822Qdepth, (sArgs (mth 87 2)), (.stmts (sBody (mth 87 2))), (sScope (mth 87 2)), 0, [], .none, .none, .none, .none, none, .none, .none, 0⟩), #[]⟩
noncomputable def o_572 (P : Params) : Obj := ⟨(.type "code"), none, (.fields #[(.str s_depth 893), (.str s_Letter822Qdepth 894), (.str s_QclaimQcutQpy 895), (.int 342 0), (.int 1 0), (.int 0 0), (.int 0 0), (.int 3 0), (.ref 504), (.bool true), (.int 181 0), (.ref 505), .none, (.ref 506), (.ref 507), (.ref 508), (.int 897 0), (.int 342 0), (.str s_QclaimQcutQpy 898)]), #[]⟩
noncomputable def o_573 (P : Params) : Obj := ⟨(.type "function"), none, (.func ⟨s_depth, s_Letter822Qdepth, (sArgs (mth 87 2)), (.stmts (sBody (mth 87 2))), (sScope (mth 87 2)), 3, [], .none, .none, .none, (.str s_postkeepQbuild 749), none, (.ref 509), .none, 0⟩), #[]⟩
noncomputable def o_574 (P : Params) : Obj := ⟨(.type "tuple"), none, (.seq #[(.str s_fields 900), (.str s_piece 901)] 0), #[]⟩
noncomputable def o_575 (P : Params) : Obj := ⟨(.type "dict"), none, (.dict #[K0 P s___module__ 871 (.str s_postkeepQbuild 749), K0 P s___firstlineno__ 875 (.int 332 874), K0 P s___init__ 884 (.ref 496), K0 P s_told 892 (.ref 503), K0 P s_depth 899 (.ref 510), K0 P s___static_attributes__ 902 (.ref 511), K0 P s___dict__ 904 (.ref 514), K0 P s___weakref__ 906 (.ref 515), K0 P s___doc__ 907 .none] 4), #[]⟩
noncomputable def o_576 (P : Params) : Obj := ⟨(.type "type"), none, (.cls ⟨s_Letter822, [(.type "object")], [(.ref 513), (.type "object")], 512, s_Letter822, true, [], [], false, none, false⟩), #[none, none, (some (.str s_Letter822 864)), (some (.str s_Letter822 872)), (some (.builtin "object.__new__")), (some (.bool true))]⟩
noncomputable def o_577 (P : Params) : Obj := ⟨(.type "getset_descriptor"), none, (.fields #[(.str s___dict__ 903), (.ref 513), (.builtin "function.__dict__"), (.builtin "function.__dict__#set")]), #[]⟩
noncomputable def o_578 (P : Params) : Obj := ⟨(.type "getset_descriptor"), none, (.fields #[(.str s___weakref__ 905), (.ref 513), (.builtin "ExceptionGroup.__weakref__"), .none]), #[]⟩
noncomputable def o_579 (P : Params) : Obj := ⟨(.type "super"), none, (.fields #[(.ref 513), (.ref 513), (.ref 513)]), #[]⟩
noncomputable def o_580 (P : Params) : Obj := ⟨(.type "builtin_function_or_method"), none, (.fields #[(.builtin "object.__init_subclass__"), (.ref 513)]), #[]⟩
noncomputable def o_581 (P : Params) : Obj := ⟨(.type "tuple"), none, (.seq #[] 0), #[]⟩
noncomputable def o_582 (P : Params) : Obj := ⟨.none, none, (.fields #[]), #[]⟩
noncomputable def o_583 (P : Params) : Obj := ⟨.none, none, (.func ⟨s_is_seven_bit, s_is_seven_bit, (sArgs (stm 88)), (.stmts (sBody (stm 88))), (sScope (stm 88)), 0, [], .none, .none, .none, .none, none, .none, .none, 0⟩), #[]⟩
noncomputable def o_584 (P : Params) : Obj := ⟨(.type "code"), none, (.fields #[(.str s_is_seven_bit 910), (.str s_is_seven_bit 911), (.str s_QclaimQcutQpy 912), (.int 344 0), (.int 1 0), (.int 0 0), (.int 0 0), (.int 3 0), (.ref 518), (.bool true), (.int 181 0), (.ref 519), .none, .none, .none, (.ref 520), (.int 913 0), (.int 344 0), (.str s_QclaimQcutQpy 914)]), #[]⟩
noncomputable def o_585 (P : Params) : Obj := ⟨(.type "function"), none, (.func ⟨s_is_seven_bit, s_is_seven_bit, (sArgs (stm 88)), (.stmts (sBody (stm 88))), (sScope (stm 88)), 3, [], .none, .none, .none, (.str s_postkeepQbuild 749), none, (.ref 521), .none, 0⟩), #[]⟩
noncomputable def o_586 (P : Params) : Obj := ⟨(.type "tuple"), none, (.seq #[] 0), #[]⟩
noncomputable def o_587 (P : Params) : Obj := ⟨.none, none, (.fields #[]), #[]⟩
noncomputable def o_588 (P : Params) : Obj := ⟨(.type "tuple"), none, (.seq #[(.str s_octets 919), (.str s_is_text 920)] 0), #[]⟩
noncomputable def o_589 (P : Params) : Obj := ⟨(.type "tuple"), none, (.seq #[] 0), #[]⟩
noncomputable def o_590 (P : Params) : Obj := ⟨.none, none, (.func ⟨s_choose_encoding, s_choose_encoding, (sArgs (stm 89)), (.stmts (sBody (stm 89))), (sScope (stm 89)), 0, [], .none, .none, .none, .none, none, .none, .none, 0⟩), #[]⟩
noncomputable def o_591 (P : Params) : Obj := ⟨(.type "code"), none, (.fields #[(.str s_choose_encoding 916), (.str s_choose_encoding 917), (.str s_QclaimQcutQpy 918), (.int 352 0), (.int 2 0), (.int 0 0), (.int 0 0), (.int 3 0), (.ref 523), (.bool true), (.int 181 0), (.ref 524), .none, (.ref 525), (.ref 526), (.ref 527), (.int 921 0), (.int 352 0), (.str s_QclaimQcutQpy 922)]), #[]⟩
noncomputable def o_592 (P : Params) : Obj := ⟨(.type "function"), none, (.func ⟨s_choose_encoding, s_choose_encoding, (sArgs (stm 89)), (.stmts (sBody (stm 89))), (sScope (stm 89)), 3, [], .none, .none, .none, (.str s_postkeepQbuild 749), none, (.ref 528), .none, 0⟩), #[]⟩
noncomputable def o_593 (P : Params) : Obj := ⟨(.type "tuple"), none, (.seq #[] 0), #[]⟩
noncomputable def o_594 (P : Params) : Obj := ⟨.none, none, (.fields #[]), #[]⟩
noncomputable def o_595 (P : Params) : Obj := ⟨(.type "tuple"), none, (.seq #[(.str s_encoding 927), (.str s_octets 928), (.str s_is_text 929)] 0), #[]⟩
noncomputable def o_596 (P : Params) : Obj := ⟨(.type "tuple"), none, (.seq #[] 0), #[]⟩
noncomputable def o_597 (P : Params) : Obj := ⟨.none, none, (.func ⟨s_in_encoding, s_in_encoding, (sArgs (stm 90)), (.stmts (sBody (stm 90))), (sScope (stm 90)), 0, [], .none, .none, .none, .none, none, .none, .none, 0⟩), #[]⟩
noncomputable def o_598 (P : Params) : Obj := ⟨(.type "code"), none, (.fields #[(.str s_in_encoding 924), (.str s_in_encoding 925), (.str s_QclaimQcutQpy 926), (.int 356 0), (.int 3 0), (.int 0 0), (.int 0 0), (.int 3 0), (.ref 530), (.bool true), (.int 181 0), (.ref 531), .none, (.ref 532), (.ref 533), (.ref 534), (.int 930 0), (.int 356 0), (.str s_QclaimQcutQpy 931)]), #[]⟩
noncomputable def o_599 (P : Params) : Obj := ⟨(.type "function"), none, (.func ⟨s_in_encoding, s_in_encoding, (sArgs (stm 90)), (.stmts (sBody (stm 90))), (sScope (stm 90)), 3, [], .none, .none, .none, (.str s_postkeepQbuild 749), none, (.ref 535), .none, 0⟩), #[]⟩
noncomputable def o_600 (P : Params) : Obj := ⟨(.type "dict"), none, (.dict #[K0 P s___name__ 165 (.str s_law_nz0319_01 1001), K0 P s___doc__ 166 .none, K0 P s___package__ 167 .none, K0 P s___loader__ 168 (.builtin "__main__.__loader__#opaque"), K0 P s___spec__ 169 .none, K0 P s___annotations__ 170 (.ref 6), K0 P s___builtins__ 171 (.ref 4), K0 P s___file__ 173 (.str s_QclaimQcutQpy 172), K0 P s___cached__ 174 .none, K0 P s_SIGNS 190 (.bytes #[65, 66, 67, 68, 69, 70, 71, 72, 73, 74, 75, 76, 77, 78, 79, 80, 81, 82, 83, 84, 85, 86, 87, 88, 89, 90, 97, 98, 99, 100, 101, 102, 103, 104, 105, 106, 107, 108, 109, 110, 111, 112, 113, 114, 115, 116, 117, 118, 119, 120, 121, 122, 48, 49, 50, 51, 52, 53, 54, 55, 56, 57, 43, 47] 189), K0 P s_PAD 192 (.int 61 191), K0 P s_LINE_END 194 (.bytes #[13, 10] 193), K0 P s_group_codes 200 (.ref 19), K0 P s_part_encoded 210 (.ref 26), K0 P s_one_line 217 (.ref 33), K0 P s_in_lines 223 (.ref 38), K0 P s_encoded 232 (.ref 46), K0 P s_PostError 274 (.ref 71), K0 P s_WordFault 290 (.ref 84), K0 P s_MimeFault 306 (.ref 96), K0 P s_CRLF 310 (.bytes #[13, 10] 309), K0 P s_RETURN 312 (.int 13 311), K0 P s_lower_code 319 (.ref 105), K0 P s_lower_text 325 (.ref 110), K0 P s_line_spans 342 (.ref 118), K0 P s_WHITE 347 (.ref 119), K0 P s_Field 391 (.ref 148), K0 P s_line_at 401 (.ref 159), K0 P s_is_name 409 (.ref 166), K0 P s_rows_of 420 (.ref 173), K0 P s_unfolded 427 (.ref 180), K0 P s_without_words 433 (.ref 185), K0 P s_is_sound 441 (.ref 192), K0 P s_write_fields 447 (.ref 197), K0 P s_ASCII 451 (.str s_usQascii 450), K0 P s_LATIN 453 (.str s_isoQ8859Q1 452), K0 P s_UTF8 455 (.str s_utfQ8 454), K0 P s_CHARSETS 456 (.ref 198), K0 P s_need_charset 463 (.ref 205), K0 P s_utf8_length 469 (.ref 210), K0 P s_utf8_octets 480 (.ref 217), K0 P s_has_sign 488 (.ref 224), K0 P s_octets_in 499 (.ref 231), K0 P s_NEVER_ESCAPED 505 (.ref 232), K0 P s_escaped_octets 515 (.ref 239), K0 P s_PER_CENT 519 (.int 37 518), K0 P s_BARRED 521 (.bytes #[40, 41, 60, 62, 64, 44, 59, 58, 92, 34, 47, 91, 93, 63, 61] 520), K0 P s_BARRED_IN_NAMES 523 (.bytes #[42, 39, 37] 522), K0 P s_HEX_FIGURES 525 (.bytes #[48, 49, 50, 51, 52, 53, 54, 55, 56, 57, 65, 66, 67, 68, 69, 70] 524), K0 P s_WIDTH 527 (.int 78 526), K0 P s_MOST_NAME 529 (.int 40 528), K0 P s_MOST_PARTS 531 (.int 1000 530), K0 P s_ROOM 533 (.int 66 532), K0 P s_Kind 593 (.ref 282), K0 P s_is_token_code 600 (.ref 293), K0 P s_is_token 606 (.ref 298), K0 P s_is_plain 612 (.ref 361), K0 P s_is_plain_params 613 (.ref 303), K0 P s_percent_encoded 622 (.ref 310), K0 P s_in_rows 632 (.ref 317), K0 P s_encoded_rows 638 (.ref 322), K0 P s_quoted_rows 644 (.ref 327), K0 P s_number_octets 650 (.ref 332), K0 P s_param_rows 656 (.ref 337), K0 P s_write_params 662 (.ref 342), K0 P s_write_kind 668 (.ref 347), K0 P s_PLAIN_ENCODING 670 (.str s_7bit 669), K0 P s_EQUALS 674 (.int 61 673), K0 P s_BLANK 676 (.int 32 675), K0 P s_TAB 678 (.int 9 677), K0 P s_LEAST_WIDTH 680 (.int 4 679), K0 P s_HEX 682 (.bytes #[48, 49, 50, 51, 52, 53, 54, 55, 56, 57, 65, 66, 67, 68, 69, 70] 681), K0 P s_quoted_code 689 (.ref 354), K0 P s_is_plain_quoted 697 (.ref 361), K0 P s_line_pieces 707 (.ref 368), K0 P s_soft_lines 719 (.ref 375), K0 P s_text_lines 727 (.ref 382), K0 P s_quoted_encoded 739 (.ref 390), K0 P s_joined_lines 748 (.ref 397), K0 P s_MOST_LINE 752 (.int 998 751), K0 P s_OWN_WORDS 756 (.ref 398), K0 P s_BOUNDARY_LEAD 758 (.str s_Q_part 757), K0 P s_fields_told 764 (.ref 403), K0 P s_bare_piece 771 (.ref 410), K0 P s_Leaf 818 (.ref 443), K0 P s_Many 863 (.ref 476), K0 P s_Letter822 909 (.ref 513), K0 P s_is_seven_bit 915 (.ref 522), K0 P s_choose_encoding 923 (.ref 529), K0 P s_in_encoding 932 (.ref 536), K0 P s_begins_line 938 (.ref 541), K0 P s_boundary_for 944 (.ref 546), K0 P s_check_fields 951 (.ref 553), K0 P s_head_octets 957 (.ref 558), K0 P s_leaf_octets 966 (.ref 565), K0 P s_joined_bodies 972 (.ref 570), K0 P s_many_octets 978 (.ref 575), K0 P s_letter_octets 985 (.ref 582), K0 P s_built 992 (.ref 589), K0 P s_letter_whole 1000 (.ref 596), K0 P s__law_kinds 1021 (.ref 605), K0 P s__law_octets 1028 (.ref 606)] 102), #[]⟩
noncomputable def o_601 (P : Params) : Obj := ⟨.none, none, (.fields #[(.int 5 0), (.int 0 0), (.ref 18), (.int 12 0), (.int 0 0), (.ref 25), (.int 17 0), (.int 0 0), (.ref 32), (.int 19 0), (.int 0 0), (.ref 37), (.int 23 0), (.int 0 0), (.ref 45), (.int 26 0), (.int 0 0), (.ref 52), (.int 35 0), (.int 0 0), (.ref 80), (.int 37 0), (.int 0 0), (.ref 92), (.int 42 0), (.int 0 0), (.ref 104), (.int 44 0), (.int 0 0), (.ref 109), (.int 46 0), (.int 0 0), (.ref 117), (.int 61 0), (.int 0 0), (.ref 125), (.int 72 0), (.int 0 0), (.ref 158), (.int 79 0), (.int 0 0), (.ref 165), (.int 84 0), (.int 0 0), (.ref 172), (.int 93 0), (.int 0 0), (.ref 179), (.int 95 0), (.int 0 0), (.ref 184), (.int 98 0), (.int 0 0), (.ref 191), (.int 105 0), (.int 0 0), (.ref 196), (.int 115 0), (.int 0 0), (.ref 204), (.int 118 0), (.int 0 0), (.ref 209), (.int 122 0), (.int 0 0), (.ref 216), (.int 132 0), (.int 0 0), (.ref 223), (.int 136 0), (.int 0 0), (.ref 230), (.int 150 0), (.int 0 0), (.ref 238), (.int 168 0), (.int 0 0), (.ref 245), (.int 186 0), (.int 0 0), (.ref 292), (.int 188 0), (.int 0 0), (.ref 297), (.int 190 0), (.int 0 0), (.ref 302), (.int 193 0), (.int 0 0), (.ref 309), (.int 201 0), (.int 0 0), (.ref 316), (.int 208 0), (.int 0 0), (.ref 321), (.int 216 0), (.int 0 0), (.ref 326), (.int 223 0), (.int 0 0), (.ref 331), (.int 225 0), (.int 0 0), (.ref 336), (.int 239 0), (.int 0 0), (.ref 341), (.int 244 0), (.int 0 0), (.ref 346), (.int 259 0), (.int 0 0), (.ref 353), (.int 261 0), (.int 0 0), (.ref 360), (.int 264 0), (.int 0 0), (.ref 367), (.int 273 0), (.int 0 0), (.ref 374), (.int 283 0), (.int 0 0), (.ref 381), (.int 285 0), (.int 0 0), (.ref 389), (.int 293 0), (.int 0 0), (.ref 396), (.int 304 0), (.int 0 0), (.ref 402), (.int 306 0), (.int 0 0), (.ref 409), (.int 308 0), (.int 0 0), (.ref 416), (.int 320 0), (.int 0 0), (.ref 453), (.int 332 0), (.int 0 0), (.ref 486), (.int 344 0), (.int 0 0), (.ref 521), (.int 352 0), (.int 0 0), (.ref 528), (.int 356 0), (.int 0 0), (.ref 535), (.int 360 0), (.int 0 0), (.ref 540), (.int 362 0), (.int 0 0), (.ref 545), (.int 370 0), (.int 0 0), (.ref 552), (.int 373 0), (.int 0 0), (.ref 557), (.int 379 0), (.int 0 0), (.ref 564), (.int 385 0), (.int 0 0), (.ref 569), (.int 388 0), (.int 0 0), (.ref 574), (.int 395 0), (.int 0 0), (.ref 581), (.int 397 0), (.int 0 0), (.ref 588), (.int 401 0), (.int 0 0), (.ref 595)]), #[]⟩
noncomputable def o_602 (P : Params) : Obj := ⟨(.type "tuple"), none, (.seq #[] 0), #[]⟩
noncomputable def o_603 (P : Params) : Obj := ⟨.none, none, (.fields #[]), #[]⟩
noncomputable def o_604 (P : Params) : Obj := ⟨.none, none, (.func ⟨s_begins_line, s_begins_line, (sArgs (stm 91)), (.stmts (sBody (stm 91))), (sScope (stm 91)), 0, [], .none, .none, .none, .none, none, .none, .none, 0⟩), #[]⟩
noncomputable def o_605 (P : Params) : Obj := ⟨(.type "code"), none, (.fields #[(.str s_begins_line 933), (.str s_begins_line 934), (.str s_QclaimQcutQpy 935), (.int 360 0), (.int 2 0), (.int 0 0), (.int 0 0), (.int 3 0), (.ref 537), (.bool true), (.int 181 0), (.ref 538), .none, .none, .none, (.ref 539), (.int 936 0), (.int 360 0), (.str s_QclaimQcutQpy 937)]), #[]⟩
noncomputable def o_606 (P : Params) : Obj := ⟨(.type "function"), none, (.func ⟨s_begins_line, s_begins_line, (sArgs (stm 91)), (.stmts (sBody (stm 91))), (sScope (stm 91)), 3, [], .none, .none, .none, (.str s_postkeepQbuild 749), none, (.ref 540), .none, 0⟩), #[]⟩
noncomputable def o_607 (P : Params) : Obj := ⟨(.type "tuple"), none, (.seq #[] 0), #[]⟩
noncomputable def o_608 (P : Params) : Obj := ⟨.none, none, (.fields #[]), #[]⟩
noncomputable def o_609 (P : Params) : Obj := ⟨.none, none, (.func ⟨s_boundary_for, s_boundary_for, (sArgs (stm 92)), (.stmts (sBody (stm 92))), (sScope (stm 92)), 0, [], .none, .none, .none, .none, none, .none, .none, 0⟩), #[]⟩
noncomputable def o_610 (P : Params) : Obj := ⟨(.type "code"), none, (.fields #[(.str s_boundary_for 939), (.str s_boundary_for 940), (.str s_QclaimQcutQpy 941), (.int 362 0), (.int 1 0), (.int 0 0), (.int 0 0), (.int 3 0), (.ref 542), (.bool true), (.int 181 0), (.ref 543), .none, .none, .none, (.ref 544), (.int 942 0), (.int 362 0), (.str s_QclaimQcutQpy 943)]), #[]⟩
noncomputable def o_611 (P : Params) : Obj := ⟨(.type "function"), none, (.func ⟨s_boundary_for, s_boundary_for, (sArgs (stm 92)), (.stmts (sBody (stm 92))), (sScope (stm 92)), 3, [], .none, .none, .none, (.str s_postkeepQbuild 749), none, (.ref 545), .none, 0⟩), #[]⟩
noncomputable def o_612 (P : Params) : Obj := ⟨(.type "tuple"), none, (.seq #[] 0), #[]⟩
noncomputable def o_613 (P : Params) : Obj := ⟨.none, none, (.fields #[]), #[]⟩
noncomputable def o_614 (P : Params) : Obj := ⟨(.type "tuple"), none, (.seq #[(.str s_fields 948)] 0), #[]⟩
noncomputable def o_615 (P : Params) : Obj := ⟨(.type "tuple"), none, (.seq #[] 0), #[]⟩
noncomputable def o_616 (P : Params) : Obj := ⟨.none, none, (.func ⟨s_check_fields, s_check_fields, (sArgs (stm 93)), (.stmts (sBody (stm 93))), (sScope (stm 93)), 0, [], .none, .none, .none, .none, none, .none, .none, 0⟩), #[]⟩
noncomputable def o_617 (P : Params) : Obj := ⟨(.type "code"), none, (.fields #[(.str s_check_fields 945), (.str s_check_fields 946), (.str s_QclaimQcutQpy 947), (.int 370 0), (.int 1 0), (.int 0 0), (.int 0 0), (.int 3 0), (.ref 547), (.bool true), (.int 181 0), (.ref 548), .none, (.ref 549), (.ref 550), (.ref 551), (.int 949 0), (.int 370 0), (.str s_QclaimQcutQpy 950)]), #[]⟩
noncomputable def o_618 (P : Params) : Obj := ⟨(.type "function"), none, (.func ⟨s_check_fields, s_check_fields, (sArgs (stm 93)), (.stmts (sBody (stm 93))), (sScope (stm 93)), 3, [], .none, .none, .none, (.str s_postkeepQbuild 749), none, (.ref 552), .none, 0⟩), #[]⟩
noncomputable def o_619 (P : Params) : Obj := ⟨(.type "tuple"), none, (.seq #[] 0), #[]⟩
noncomputable def o_620 (P : Params) : Obj := ⟨.none, none, (.fields #[]), #[]⟩
noncomputable def o_621 (P : Params) : Obj := ⟨.none, none, (.func ⟨s_head_octets, s_head_octets, (sArgs (stm 94)), (.stmts (sBody (stm 94))), (sScope (stm 94)), 0, [], .none, .none, .none, .none, none, .none, .none, 0⟩), #[]⟩
noncomputable def o_622 (P : Params) : Obj := ⟨(.type "code"), none, (.fields #[(.str s_head_octets 952), (.str s_head_octets 953), (.str s_QclaimQcutQpy 954), (.int 373 0), (.int 3 0), (.int 0 0), (.int 0 0), (.int 3 0), (.ref 554), (.bool true), (.int 181 0), (.ref 555), .none, .none, .none, (.ref 556), (.int 955 0), (.int 373 0), (.str s_QclaimQcutQpy 956)]), #[]⟩
noncomputable def o_623 (P : Params) : Obj := ⟨(.type "function"), none, (.func ⟨s_head_octets, s_head_octets, (sArgs (stm 94)), (.stmts (sBody (stm 94))), (sScope (stm 94)), 3, [], .none, .none, .none, (.str s_postkeepQbuild 749), none, (.ref 557), .none, 0⟩), #[]⟩
noncomputable def o_624 (P : Params) : Obj := ⟨(.type "tuple"), none, (.seq #[] 0), #[]⟩
noncomputable def o_625 (P : Params) : Obj := ⟨.none, none, (.fields #[]), #[]⟩
noncomputable def o_626 (P : Params) : Obj := ⟨(.type "tuple"), none, (.seq #[(.str s_leaf 961), (.str s_kind 962), (.str s_encoding 963)] 0), #[]⟩
noncomputable def o_627 (P : Params) : Obj := ⟨(.type "tuple"), none, (.seq #[] 0), #[]⟩
noncomputable def o_628 (P : Params) : Obj := ⟨.none, none, (.func ⟨s_leaf_octets, s_leaf_octets, (sArgs (stm 95)), (.stmts (sBody (stm 95))), (sScope (stm 95)), 0, [], .none, .none, .none, .none, none, .none, .none, 0⟩), #[]⟩
noncomputable def o_629 (P : Params) : Obj := ⟨(.type "code"), none, (.fields #[(.str s_leaf_octets 958), (.str s_leaf_octets 959), (.str s_QclaimQcutQpy 960), (.int 379 0), (.int 1 0), (.int 0 0), (.int 0 0), (.int 3 0), (.ref 559), (.bool true), (.int 181 0), (.ref 560), .none, (.ref 561), (.ref 562), (.ref 563), (.int 964 0), (.int 379 0), (.str s_QclaimQcutQpy 965)]), #[]⟩
noncomputable def o_630 (P : Params) : Obj := ⟨(.type "function"), none, (.func ⟨s_leaf_octets, s_leaf_octets, (sArgs (stm 95)), (.stmts (sBody (stm 95))), (sScope (stm 95)), 3, [], .none, .none, .none, (.str s_postkeepQbuild 749), none, (.ref 564), .none, 0⟩), #[]⟩
noncomputable def o_631 (P : Params) : Obj := ⟨(.type "tuple"), none, (.seq #[] 0), #[]⟩
noncomputable def o_632 (P : Params) : Obj := ⟨.none, none, (.fields #[]), #[]⟩
noncomputable def o_633 (P : Params) : Obj := ⟨.none, none, (.func ⟨s_joined_bodies, s_joined_bodies, (sArgs (stm 96)), (.stmts (sBody (stm 96))), (sScope (stm 96)), 0, [], .none, .none, .none, .none, none, .none, .none, 0⟩), #[]⟩
noncomputable def o_634 (P : Params) : Obj := ⟨(.type "code"), none, (.fields #[(.str s_joined_bodies 967), (.str s_joined_bodies 968), (.str s_QclaimQcutQpy 969), (.int 385 0), (.int 2 0), (.int 0 0), (.int 0 0), (.int 3 0), (.ref 566), (.bool true), (.int 181 0), (.ref 567), .none, .none, .none, (.ref 568), (.int 970 0), (.int 385 0), (.str s_QclaimQcutQpy 971)]), #[]⟩
noncomputable def o_635 (P : Params) : Obj := ⟨(.type "function"), none, (.func ⟨s_joined_bodies, s_joined_bodies, (sArgs (stm 96)), (.stmts (sBody (stm 96))), (sScope (stm 96)), 3, [], .none, .none, .none, (.str s_postkeepQbuild 749), none, (.ref 569), .none, 0⟩), #[]⟩
noncomputable def o_636 (P : Params) : Obj := ⟨(.type "tuple"), none, (.seq #[] 0), #[]⟩
noncomputable def o_637 (P : Params) : Obj := ⟨.none, none, (.fields #[]), #[]⟩
noncomputable def o_638 (P : Params) : Obj := ⟨.none, none, (.func ⟨s_many_octets, s_many_octets, (sArgs (stm 97)), (.stmts (sBody (stm 97))), (sScope (stm 97)), 0, [], .none, .none, .none, .none, none, .none, .none, 0⟩), #[]⟩
noncomputable def o_639 (P : Params) : Obj := ⟨(.type "code"), none, (.fields #[(.str s_many_octets 973), (.str s_many_octets 974), (.str s_QclaimQcutQpy 975), (.int 388 0), (.int 1 0), (.int 0 0), (.int 0 0), (.int 3 0), (.ref 571), (.bool true), (.int 181 0), (.ref 572), .none, .none, .none, (.ref 573), (.int 976 0), (.int 388 0), (.str s_QclaimQcutQpy 977)]), #[]⟩
noncomputable def o_640 (P : Params) : Obj := ⟨(.type "function"), none, (.func ⟨s_many_octets, s_many_octets, (sArgs (stm 97)), (.stmts (sBody (stm 97))), (sScope (stm 97)), 3, [], .none, .none, .none, (.str s_postkeepQbuild 749), none, (.ref 574), .none, 0⟩), #[]⟩
noncomputable def o_641 (P : Params) : Obj := ⟨(.type "tuple"), none, (.seq #[] 0), #[]⟩
noncomputable def o_642 (P : Params) : Obj := ⟨.none, none, (.fields #[]), #[]⟩
noncomputable def o_643 (P : Params) : Obj := ⟨(.type "tuple"), none, (.seq #[(.str s_letter 982)] 0), #[]⟩
noncomputable def o_644 (P : Params) : Obj := ⟨(.type "tuple"), none, (.seq #[] 0), #[]⟩
noncomputable def o_645 (P : Params) : Obj := ⟨.none, none, (.func ⟨s_letter_octets, s_letter_octets, (sArgs (stm 98)), (.stmts (sBody (stm 98))), (sScope (stm 98)), 0, [], .none, .none, .none, .none, none, .none, .none, 0⟩), #[]⟩
noncomputable def o_646 (P : Params) : Obj := ⟨(.type "code"), none, (.fields #[(.str s_letter_octets 979), (.str s_letter_octets 980), (.str s_QclaimQcutQpy 981), (.int 395 0), (.int 1 0), (.int 0 0), (.int 0 0), (.int 3 0), (.ref 576), (.bool true), (.int 181 0), (.ref 577), .none, (.ref 578), (.ref 579), (.ref 580), (.int 983 0), (.int 395 0), (.str s_QclaimQcutQpy 984)]), #[]⟩
noncomputable def o_647 (P : Params) : Obj := ⟨(.type "function"), none, (.func ⟨s_letter_octets, s_letter_octets, (sArgs (stm 98)), (.stmts (sBody (stm 98))), (sScope (stm 98)), 3, [], .none, .none, .none, (.str s_postkeepQbuild 749), none, (.ref 581), .none, 0⟩), #[]⟩
noncomputable def o_648 (P : Params) : Obj := ⟨(.type "tuple"), none, (.seq #[] 0), #[]⟩
noncomputable def o_649 (P : Params) : Obj := ⟨.none, none, (.fields #[]), #[]⟩
noncomputable def o_650 (P : Params) : Obj := ⟨(.type "tuple"), none, (.seq #[(.str s_piece 989)] 0), #[]⟩
noncomputable def o_651 (P : Params) : Obj := ⟨(.type "tuple"), none, (.seq #[] 0), #[]⟩
noncomputable def o_652 (P : Params) : Obj := ⟨.none, none, (.func ⟨s_built, s_built, (sArgs (stm 99)), (.stmts (sBody (stm 99))), (sScope (stm 99)), 0, [], .none, .none, .none, .none, none, .none, .none, 0⟩), #[]⟩
noncomputable def o_653 (P : Params) : Obj := ⟨(.type "code"), none, (.fields #[(.str s_built 986), (.str s_built 987), (.str s_QclaimQcutQpy 988), (.int 397 0), (.int 1 0), (.int 0 0), (.int 0 0), (.int 3 0), (.ref 583), (.bool true), (.int 181 0), (.ref 584), .none, (.ref 585), (.ref 586), (.ref 587), (.int 990 0), (.int 397 0), (.str s_QclaimQcutQpy 991)]), #[]⟩
noncomputable def o_654 (P : Params) : Obj := ⟨(.type "function"), none, (.func ⟨s_built, s_built, (sArgs (stm 99)), (.stmts (sBody (stm 99))), (sScope (stm 99)), 3, [], .none, .none, .none, (.str s_postkeepQbuild 749), none, (.ref 588), .none, 0⟩), #[]⟩
noncomputable def o_655 (P : Params) : Obj := ⟨(.type "tuple"), none, (.seq #[] 0), #[]⟩
noncomputable def o_656 (P : Params) : Obj := ⟨.none, none, (.fields #[]), #[]⟩
noncomputable def o_657 (P : Params) : Obj := ⟨(.type "tuple"), none, (.seq #[(.str s_piece 996), (.str s_fields 997)] 0), #[]⟩
noncomputable def o_658 (P : Params) : Obj := ⟨(.type "tuple"), none, (.seq #[] 0), #[]⟩
noncomputable def o_659 (P : Params) : Obj := ⟨.none, none, (.func ⟨s_letter_whole, s_letter_whole, (sArgs (stm 100)), (.stmts (sBody (stm 100))), (sScope (stm 100)), 0, [], .none, .none, .none, .none, none, .none, .none, 0⟩), #[]⟩
noncomputable def o_660 (P : Params) : Obj := ⟨(.type "code"), none, (.fields #[(.str s_letter_whole 993), (.str s_letter_whole 994), (.str s_QclaimQcutQpy 995), (.int 401 0), (.int 2 0), (.int 0 0), (.int 0 0), (.int 3 0), (.ref 590), (.bool true), (.int 181 0), (.ref 591), .none, (.ref 592), (.ref 593), (.ref 594), (.int 998 0), (.int 401 0), (.str s_QclaimQcutQpy 999)]), #[]⟩
noncomputable def o_661 (P : Params) : Obj := ⟨(.type "function"), none, (.func ⟨s_letter_whole, s_letter_whole, (sArgs (stm 100)), (.stmts (sBody (stm 100))), (sScope (stm 100)), 3, [], .none, .none, .none, (.str s_postkeepQbuild 749), none, (.ref 595), .none, 0⟩), #[]⟩
noncomputable def o_662 (P : Params) : Obj := ⟨(.type "dict"), none, (.dict #[] 0), #[]⟩
noncomputable def o_663 (P : Params) : Obj := ⟨(.type "tuple"), none, (.seq #[(.str s_text 1003), (.str s_plain 1004), (.ref 597), (.bytes #[116, 101, 120, 116, 47, 112, 108, 97, 105, 110] 1005)] 0), #[]⟩
noncomputable def o_664 (P : Params) : Obj := ⟨(.type "dict"), none, (.dict #[] 0), #[]⟩
noncomputable def o_665 (P : Params) : Obj := ⟨(.type "tuple"), none, (.seq #[(.str s_image 1006), (.str s_png 1007), (.ref 599), (.bytes #[105, 109, 97, 103, 101, 47, 112, 110, 103] 1008)] 0), #[]⟩
noncomputable def o_666 (P : Params) : Obj := ⟨(.type "dict"), none, (.dict #[K0 P s_a 1011 (.str s_b 1012)] 1), #[]⟩
noncomputable def o_667 (P : Params) : Obj := ⟨(.type "tuple"), none, (.seq #[(.str s_text 1009), (.str s_x 1010), (.ref 601), (.bytes #[116, 101, 120, 116, 47, 120, 59, 13, 10, 32, 97, 61, 98] 1014)] 0), #[]⟩
noncomputable def o_668 (P : Params) : Obj := ⟨(.type "dict"), none, (.dict #[K0 P s_n 1017 (.str s_aQb 1018)] 1), #[]⟩
noncomputable def o_669 (P : Params) : Obj := ⟨(.type "tuple"), none, (.seq #[(.str s_application 1015), (.str s_y 1016), (.ref 603), (.bytes #[97, 112, 112, 108, 105, 99, 97, 116, 105, 111, 110, 47, 121, 59, 13, 10, 32, 110, 61, 34, 97, 32, 98, 34] 1020)] 0), #[]⟩
noncomputable def o_670 (P : Params) : Obj := ⟨(.type "tuple"), none, (.seq #[(.ref 598), (.ref 600), (.ref 602), (.ref 604)] 0), #[]⟩
noncomputable def o_671 (P : Params) : Obj := ⟨(.type "tuple"), none, (.seq #[(.bytes #[] 1022), (.bytes #[120] 1023), (.bytes #[120, 13, 10] 1024), (.bytes #[45, 45, 61, 95, 112, 97, 114, 116, 48] 1025), (.bytes #[97, 13, 10, 45, 45, 61, 95, 112, 97, 114, 116, 49, 13, 10] 1026), (.bytes #[45, 45, 61, 95, 112, 97, 114, 116, 50, 120, 13, 10, 45, 45, 61, 95, 112, 97, 114, 116, 48] 1027)] 0), #[]⟩
noncomputable def o_674 (P : Params) : Obj := ⟨(.type "dict"), none, (.dict #[K0 P s___name__ 165 (.str s_law_nz0319_01 1001), K0 P s___doc__ 166 .none, K0 P s___package__ 167 .none, K0 P s___loader__ 168 (.builtin "__main__.__loader__#opaque"), K0 P s___spec__ 169 .none, K0 P s___annotations__ 170 (.ref 6), K0 P s___builtins__ 171 (.ref 4), K0 P s___file__ 173 (.str s_QclaimQcutQpy 172), K0 P s___cached__ 174 .none, K0 P s_SIGNS 190 (.bytes #[65, 66, 67, 68, 69, 70, 71, 72, 73, 74, 75, 76, 77, 78, 79, 80, 81, 82, 83, 84, 85, 86, 87, 88, 89, 90, 97, 98, 99, 100, 101, 102, 103, 104, 105, 106, 107, 108, 109, 110, 111, 112, 113, 114, 115, 116, 117, 118, 119, 120, 121, 122, 48, 49, 50, 51, 52, 53, 54, 55, 56, 57, 43, 47] 189), K0 P s_PAD 192 (.int 61 191), K0 P s_LINE_END 194 (.bytes #[13, 10] 193), K0 P s_group_codes 200 (.ref 19), K0 P s_part_encoded 210 (.ref 26), K0 P s_one_line 217 (.ref 33), K0 P s_in_lines 223 (.ref 38), K0 P s_encoded 232 (.ref 46), K0 P s_PostError 274 (.ref 71), K0 P s_WordFault 290 (.ref 84), K0 P s_MimeFault 306 (.ref 96), K0 P s_CRLF 310 (.bytes #[13, 10] 309), K0 P s_RETURN 312 (.int 13 311), K0 P s_lower_code 319 (.ref 105), K0 P s_lower_text 325 (.ref 110), K0 P s_line_spans 342 (.ref 118), K0 P s_WHITE 347 (.ref 119), K0 P s_Field 391 (.ref 148), K0 P s_line_at 401 (.ref 159), K0 P s_is_name 409 (.ref 166), K0 P s_rows_of 420 (.ref 173), K0 P s_unfolded 427 (.ref 180), K0 P s_without_words 433 (.ref 185), K0 P s_is_sound 441 (.ref 192), K0 P s_write_fields 447 (.ref 197), K0 P s_ASCII 451 (.str s_usQascii 450), K0 P s_LATIN 453 (.str s_isoQ8859Q1 452), K0 P s_UTF8 455 (.str s_utfQ8 454), K0 P s_CHARSETS 456 (.ref 198), K0 P s_need_charset 463 (.ref 205), K0 P s_utf8_length 469 (.ref 210), K0 P s_utf8_octets 480 (.ref 217), K0 P s_has_sign 488 (.ref 224), K0 P s_octets_in 499 (.ref 231), K0 P s_NEVER_ESCAPED 505 (.ref 232), K0 P s_escaped_octets 515 (.ref 239), K0 P s_PER_CENT 519 (.int 37 518), K0 P s_BARRED 521 (.bytes #[40, 41, 60, 62, 64, 44, 59, 58, 92, 34, 47, 91, 93, 63, 61] 520), K0 P s_BARRED_IN_NAMES 523 (.bytes #[42, 39, 37] 522), K0 P s_HEX_FIGURES 525 (.bytes #[48, 49, 50, 51, 52, 53, 54, 55, 56, 57, 65, 66, 67, 68, 69, 70] 524), K0 P s_WIDTH 527 (.int 78 526), K0 P s_MOST_NAME 529 (.int 40 528), K0 P s_MOST_PARTS 531 (.int 1000 530), K0 P s_ROOM 533 (.int 66 532), K0 P s_Kind 593 (.ref 282), K0 P s_is_token_code 600 (.ref 293), K0 P s_is_token 606 (.ref 298), K0 P s_is_plain 612 (.ref 361), K0 P s_is_plain_params 613 (.ref 303), K0 P s_percent_encoded 622 (.ref 310), K0 P s_in_rows 632 (.ref 317), K0 P s_encoded_rows 638 (.ref 322), K0 P s_quoted_rows 644 (.ref 327), K0 P s_number_octets 650 (.ref 332), K0 P s_param_rows 656 (.ref 337), K0 P s_write_params 662 (.ref 342), K0 P s_write_kind 668 (.ref 347), K0 P s_PLAIN_ENCODING 670 (.str s_7bit 669), K0 P s_EQUALS 674 (.int 61 673), K0 P s_BLANK 676 (.int 32 675), K0 P s_TAB 678 (.int 9 677), K0 P s_LEAST_WIDTH 680 (.int 4 679), K0 P s_HEX 682 (.bytes #[48, 49, 50, 51, 52, 53, 54, 55, 56, 57, 65, 66, 67, 68, 69, 70] 681), K0 P s_quoted_code 689 (.ref 354), K0 P s_is_plain_quoted 697 (.ref 361), K0 P s_line_pieces 707 (.ref 368), K0 P s_soft_lines 719 (.ref 375), K0 P s_text_lines 727 (.ref 382), K0 P s_quoted_encoded 739 (.ref 390), K0 P s_joined_lines 748 (.ref 397), K0 P s_MOST_LINE 752 (.int 998 751), K0 P s_OWN_WORDS 756 (.ref 398), K0 P s_BOUNDARY_LEAD 758 (.str s_Q_part 757), K0 P s_fields_told 764 (.ref 403), K0 P s_bare_piece 771 (.ref 410), K0 P s_Leaf 818 (.ref 443), K0 P s_Many 863 (.ref 476), K0 P s_Letter822 909 (.ref 513), K0 P s_is_seven_bit 915 (.ref 522), K0 P s_choose_encoding 923 (.ref 529), K0 P s_in_encoding 932 (.ref 536), K0 P s_begins_line 938 (.ref 541), K0 P s_boundary_for 944 (.ref 546), K0 P s_check_fields 951 (.ref 553), K0 P s_head_octets 957 (.ref 558), K0 P s_leaf_octets 966 (.ref 565), K0 P s_joined_bodies 972 (.ref 570), K0 P s_many_octets 978 (.ref 575), K0 P s_letter_octets 985 (.ref 582), K0 P s_built 992 (.ref 589), K0 P s_letter_whole 1000 (.ref 596), K0 P s__law_kinds 1021 (.ref 605), K0 P s__law_octets 1028 (.ref 606), K0 P s__law_draw 1038 (.ref 613), K0 P s__law_fields 1046 (.ref 620), K0 P s__law_leaf 1060 (.ref 627), K0 P s__law_piece 1073 (.ref 634), K0 P s__law_number 1079 (.ref 639), K0 P s__law_many 1085 (.ref 644), K0 P s_law 1095 (.ref 651)] 109), #[]⟩
noncomputable def o_675 (P : Params) : Obj := ⟨.none, none, (.fields #[(.int 5 0), (.int 0 0), (.ref 18), (.int 12 0), (.int 0 0), (.ref 25), (.int 17 0), (.int 0 0), (.ref 32), (.int 19 0), (.int 0 0), (.ref 37), (.int 23 0), (.int 0 0), (.ref 45), (.int 26 0), (.int 0 0), (.ref 52), (.int 35 0), (.int 0 0), (.ref 80), (.int 37 0), (.int 0 0), (.ref 92), (.int 42 0), (.int 0 0), (.ref 104), (.int 44 0), (.int 0 0), (.ref 109), (.int 46 0), (.int 0 0), (.ref 117), (.int 61 0), (.int 0 0), (.ref 125), (.int 72 0), (.int 0 0), (.ref 158), (.int 79 0), (.int 0 0), (.ref 165), (.int 84 0), (.int 0 0), (.ref 172), (.int 93 0), (.int 0 0), (.ref 179), (.int 95 0), (.int 0 0), (.ref 184), (.int 98 0), (.int 0 0), (.ref 191), (.int 105 0), (.int 0 0), (.ref 196), (.int 115 0), (.int 0 0), (.ref 204), (.int 118 0), (.int 0 0), (.ref 209), (.int 122 0), (.int 0 0), (.ref 216), (.int 132 0), (.int 0 0), (.ref 223), (.int 136 0), (.int 0 0), (.ref 230), (.int 150 0), (.int 0 0), (.ref 238), (.int 168 0), (.int 0 0), (.ref 245), (.int 186 0), (.int 0 0), (.ref 292), (.int 188 0), (.int 0 0), (.ref 297), (.int 190 0), (.int 0 0), (.ref 302), (.int 193 0), (.int 0 0), (.ref 309), (.int 201 0), (.int 0 0), (.ref 316), (.int 208 0), (.int 0 0), (.ref 321), (.int 216 0), (.int 0 0), (.ref 326), (.int 223 0), (.int 0 0), (.ref 331), (.int 225 0), (.int 0 0), (.ref 336), (.int 239 0), (.int 0 0), (.ref 341), (.int 244 0), (.int 0 0), (.ref 346), (.int 259 0), (.int 0 0), (.ref 353), (.int 261 0), (.int 0 0), (.ref 360), (.int 264 0), (.int 0 0), (.ref 367), (.int 273 0), (.int 0 0), (.ref 374), (.int 283 0), (.int 0 0), (.ref 381), (.int 285 0), (.int 0 0), (.ref 389), (.int 293 0), (.int 0 0), (.ref 396), (.int 304 0), (.int 0 0), (.ref 402), (.int 306 0), (.int 0 0), (.ref 409), (.int 308 0), (.int 0 0), (.ref 416), (.int 320 0), (.int 0 0), (.ref 453), (.int 332 0), (.int 0 0), (.ref 486), (.int 344 0), (.int 0 0), (.ref 521), (.int 352 0), (.int 0 0), (.ref 528), (.int 356 0), (.int 0 0), (.ref 535), (.int 360 0), (.int 0 0), (.ref 540), (.int 362 0), (.int 0 0), (.ref 545), (.int 370 0), (.int 0 0), (.ref 552), (.int 373 0), (.int 0 0), (.ref 557), (.int 379 0), (.int 0 0), (.ref 564), (.int 385 0), (.int 0 0), (.ref 569), (.int 388 0), (.int 0 0), (.ref 574), (.int 395 0), (.int 0 0), (.ref 581), (.int 397 0), (.int 0 0), (.ref 588), (.int 401 0), (.int 0 0), (.ref 595), (.int 407 0), (.int 0 0), (.ref 612), (.int 412 0), (.int 0 0), (.ref 619), (.int 415 0), (.int 0 0), (.ref 626), (.int 420 0), (.int 0 0), (.ref 633), (.int 429 0), (.int 0 0), (.ref 638), (.int 435 0), (.int 0 0), (.ref 643), (.int 444 0), (.int 0 0), (.ref 650)]), #[]⟩
noncomputable def o_676 (P : Params) : Obj := ⟨(.type "tuple"), none, (.seq #[] 0), #[]⟩
noncomputable def o_677 (P : Params) : Obj := ⟨.none, none, (.fields #[]), #[]⟩
noncomputable def o_678 (P : Params) : Obj := ⟨(.type "tuple"), none, (.seq #[(.str s_tape 1032), (.str s_limit 1033), (.str s_cells 1034), (.str s_at 1035)] 0), #[]⟩
noncomputable def o_679 (P : Params) : Obj := ⟨(.type "tuple"), none, (.seq #[] 0), #[]⟩
noncomputable def o_680 (P : Params) : Obj := ⟨.none, none, (.func ⟨s__law_draw, s__law_draw, (sArgs (stm 104)), (.stmts (sBody (stm 104))), (sScope (stm 104)), 0, [], .none, .none, .none, .none, none, .none, .none, 0⟩), #[]⟩
noncomputable def o_681 (P : Params) : Obj := ⟨(.type "code"), none, (.fields #[(.str s__law_draw 1029), (.str s__law_draw 1030), (.str s_QclaimQcutQpy 1031), (.int 407 0), (.int 2 0), (.int 0 0), (.int 0 0), (.int 3 0), (.ref 607), (.bool true), (.int 181 0), (.ref 608), .none, (.ref 609), (.ref 610), (.ref 611), (.int 1036 0), (.int 407 0), (.str s_QclaimQcutQpy 1037)]), #[]⟩
noncomputable def o_682 (P : Params) : Obj := ⟨(.type "function"), none, (.func ⟨s__law_draw, s__law_draw, (sArgs (stm 104)), (.stmts (sBody (stm 104))), (sScope (stm 104)), 3, [], .none, .none, .none, (.str s_law_nz0319_01 1001), none, (.ref 612), .none, 0⟩), #[]⟩
noncomputable def o_683 (P : Params) : Obj := ⟨(.type "tuple"), none, (.seq #[] 0), #[]⟩
noncomputable def o_684 (P : Params) : Obj := ⟨.none, none, (.fields #[]), #[]⟩
noncomputable def o_685 (P : Params) : Obj := ⟨(.type "tuple"), none, (.seq #[(.str s_tape 1042), (.str s_way 1043)] 0), #[]⟩
noncomputable def o_686 (P : Params) : Obj := ⟨(.type "tuple"), none, (.seq #[] 0), #[]⟩
noncomputable def o_687 (P : Params) : Obj := ⟨.none, none, (.func ⟨s__law_fields, s__law_fields, (sArgs (stm 105)), (.stmts (sBody (stm 105))), (sScope (stm 105)), 0, [], .none, .none, .none, .none, none, .none, .none, 0⟩), #[]⟩
noncomputable def o_688 (P : Params) : Obj := ⟨(.type "code"), none, (.fields #[(.str s__law_fields 1039), (.str s__law_fields 1040), (.str s_QclaimQcutQpy 1041), (.int 412 0), (.int 1 0), (.int 0 0), (.int 0 0), (.int 3 0), (.ref 614), (.bool true), (.int 181 0), (.ref 615), .none, (.ref 616), (.ref 617), (.ref 618), (.int 1044 0), (.int 412 0), (.str s_QclaimQcutQpy 1045)]), #[]⟩
noncomputable def o_689 (P : Params) : Obj := ⟨(.type "function"), none, (.func ⟨s__law_fields, s__law_fields, (sArgs (stm 105)), (.stmts (sBody (stm 105))), (sScope (stm 105)), 3, [], .none, .none, .none, (.str s_law_nz0319_01 1001), none, (.ref 619), .none, 0⟩), #[]⟩
noncomputable def o_690 (P : Params) : Obj := ⟨(.type "tuple"), none, (.seq #[] 0), #[]⟩
noncomputable def o_691 (P : Params) : Obj := ⟨.none, none, (.fields #[]), #[]⟩
noncomputable def o_692 (P : Params) : Obj := ⟨(.type "tuple"), none, (.seq #[(.str s_tape 1050), (.str s_fields 1051), (.str s_told_fields 1052), (.str s_top 1053), (.str s_sub 1054), (.str s_params 1055), (.str s_words 1056), (.str s_octets 1057)] 0), #[]⟩
noncomputable def o_693 (P : Params) : Obj := ⟨(.type "tuple"), none, (.seq #[] 0), #[]⟩
noncomputable def o_694 (P : Params) : Obj := ⟨.none, none, (.func ⟨s__law_leaf, s__law_leaf, (sArgs (stm 106)), (.stmts (sBody (stm 106))), (sScope (stm 106)), 0, [], .none, .none, .none, .none, none, .none, .none, 0⟩), #[]⟩
noncomputable def o_695 (P : Params) : Obj := ⟨(.type "code"), none, (.fields #[(.str s__law_leaf 1047), (.str s__law_leaf 1048), (.str s_QclaimQcutQpy 1049), (.int 415 0), (.int 1 0), (.int 0 0), (.int 0 0), (.int 3 0), (.ref 621), (.bool true), (.int 181 0), (.ref 622), .none, (.ref 623), (.ref 624), (.ref 625), (.int 1058 0), (.int 415 0), (.str s_QclaimQcutQpy 1059)]), #[]⟩
noncomputable def o_696 (P : Params) : Obj := ⟨(.type "function"), none, (.func ⟨s__law_leaf, s__law_leaf, (sArgs (stm 106)), (.stmts (sBody (stm 106))), (sScope (stm 106)), 3, [], .none, .none, .none, (.str s_law_nz0319_01 1001), none, (.ref 626), .none, 0⟩), #[]⟩
noncomputable def o_697 (P : Params) : Obj := ⟨(.type "tuple"), none, (.seq #[] 0), #[]⟩
noncomputable def o_698 (P : Params) : Obj := ⟨.none, none, (.fields #[]), #[]⟩
noncomputable def o_699 (P : Params) : Obj := ⟨(.type "tuple"), none, (.seq #[(.str s_tape 1064), (.str s_depth 1065), (.str s_sort 1066), (.str s_fields 1067), (.str s_told_fields 1068), (.str s_inner 1069), (.str s_octets 1070)] 0), #[]⟩
noncomputable def o_700 (P : Params) : Obj := ⟨(.type "tuple"), none, (.seq #[] 0), #[]⟩
noncomputable def o_701 (P : Params) : Obj := ⟨.none, none, (.func ⟨s__law_piece, s__law_piece, (sArgs (stm 107)), (.stmts (sBody (stm 107))), (sScope (stm 107)), 0, [], .none, .none, .none, .none, none, .none, .none, 0⟩), #[]⟩
noncomputable def o_702 (P : Params) : Obj := ⟨(.type "code"), none, (.fields #[(.str s__law_piece 1061), (.str s__law_piece 1062), (.str s_QclaimQcutQpy 1063), (.int 420 0), (.int 2 0), (.int 0 0), (.int 0 0), (.int 3 0), (.ref 628), (.bool true), (.int 181 0), (.ref 629), .none, (.ref 630), (.ref 631), (.ref 632), (.int 1071 0), (.int 420 0), (.str s_QclaimQcutQpy 1072)]), #[]⟩
noncomputable def o_703 (P : Params) : Obj := ⟨(.type "function"), none, (.func ⟨s__law_piece, s__law_piece, (sArgs (stm 107)), (.stmts (sBody (stm 107))), (sScope (stm 107)), 3, [], .none, .none, .none, (.str s_law_nz0319_01 1001), none, (.ref 633), .none, 0⟩), #[]⟩
noncomputable def o_704 (P : Params) : Obj := ⟨(.type "tuple"), none, (.seq #[] 0), #[]⟩
noncomputable def o_705 (P : Params) : Obj := ⟨.none, none, (.fields #[]), #[]⟩
noncomputable def o_706 (P : Params) : Obj := ⟨.none, none, (.func ⟨s__law_number, s__law_number, (sArgs (stm 108)), (.stmts (sBody (stm 108))), (sScope (stm 108)), 0, [], .none, .none, .none, .none, none, .none, .none, 0⟩), #[]⟩
noncomputable def o_707 (P : Params) : Obj := ⟨(.type "code"), none, (.fields #[(.str s__law_number 1074), (.str s__law_number 1075), (.str s_QclaimQcutQpy 1076), (.int 429 0), (.int 1 0), (.int 0 0), (.int 0 0), (.int 3 0), (.ref 635), (.bool true), (.int 181 0), (.ref 636), .none, .none, .none, (.ref 637), (.int 1077 0), (.int 429 0), (.str s_QclaimQcutQpy 1078)]), #[]⟩
noncomputable def o_708 (P : Params) : Obj := ⟨(.type "function"), none, (.func ⟨s__law_number, s__law_number, (sArgs (stm 108)), (.stmts (sBody (stm 108))), (sScope (stm 108)), 3, [], .none, .none, .none, (.str s_law_nz0319_01 1001), none, (.ref 638), .none, 0⟩), #[]⟩
noncomputable def o_709 (P : Params) : Obj := ⟨(.type "tuple"), none, (.seq #[] 0), #[]⟩
noncomputable def o_710 (P : Params) : Obj := ⟨.none, none, (.fields #[]), #[]⟩
noncomputable def o_711 (P : Params) : Obj := ⟨.none, none, (.func ⟨s__law_many, s__law_many, (sArgs (stm 109)), (.stmts (sBody (stm 109))), (sScope (stm 109)), 0, [], .none, .none, .none, .none, none, .none, .none, 0⟩), #[]⟩
noncomputable def o_712 (P : Params) : Obj := ⟨(.type "code"), none, (.fields #[(.str s__law_many 1080), (.str s__law_many 1081), (.str s_QclaimQcutQpy 1082), (.int 435 0), (.int 2 0), (.int 0 0), (.int 0 0), (.int 3 0), (.ref 640), (.bool true), (.int 181 0), (.ref 641), .none, .none, .none, (.ref 642), (.int 1083 0), (.int 435 0), (.str s_QclaimQcutQpy 1084)]), #[]⟩
noncomputable def o_713 (P : Params) : Obj := ⟨(.type "function"), none, (.func ⟨s__law_many, s__law_many, (sArgs (stm 109)), (.stmts (sBody (stm 109))), (sScope (stm 109)), 3, [], .none, .none, .none, (.str s_law_nz0319_01 1001), none, (.ref 643), .none, 0⟩), #[]⟩
noncomputable def o_714 (P : Params) : Obj := ⟨(.type "tuple"), none, (.seq #[] 0), #[]⟩
noncomputable def o_715 (P : Params) : Obj := ⟨.none, none, (.fields #[]), #[]⟩
noncomputable def o_716 (P : Params) : Obj := ⟨(.type "tuple"), none, (.seq #[(.str s_script 1089), (.str s_tape 1090), (.str s_piece 1091), (.str s_due 1092)] 0), #[]⟩
noncomputable def o_717 (P : Params) : Obj := ⟨(.type "tuple"), none, (.seq #[] 0), #[]⟩
noncomputable def o_718 (P : Params) : Obj := ⟨.none, none, (.func ⟨s_law, s_law, (sArgs (stm 110)), (.stmts (sBody (stm 110))), (sScope (stm 110)), 0, [], .none, .none, .none, .none, none, .none, .none, 0⟩), #[]⟩
noncomputable def o_719 (P : Params) : Obj := ⟨(.type "code"), none, (.fields #[(.str s_law 1086), (.str s_law 1087), (.str s_QclaimQcutQpy 1088), (.int 444 0), (.int 1 0), (.int 0 0), (.int 0 0), (.int 3 0), (.ref 645), (.bool true), (.int 181 0), (.ref 646), .none, (.ref 647), (.ref 648), (.ref 649), (.int 1093 0), (.int 444 0), (.str s_QclaimQcutQpy 1094)]), #[]⟩
noncomputable def o_720 (P : Params) : Obj := ⟨(.type "function"), none, (.func ⟨s_law, s_law, (sArgs (stm 110)), (.stmts (sBody (stm 110))), (sScope (stm 110)), 3, [], .none, .none, .none, (.str s_law_nz0319_01 1001), none, (.ref 650), .none, 0⟩), #[]⟩
noncomputable def part {α : Type} : List α → Nat → Nat → List α
  | [], _, _ => []
  | _ :: _, 0, 0 => []
  | x :: r, 0, n + 1 => x :: part r 0 n
  | _ :: r, i + 1, n => part r i n
noncomputable def sts (i n : Nat) : List Stmt := part PG.main.body i n
noncomputable def e41 : Env := { scope := PG.main.scope, locals := mainNs, globals := mainNs, cells := [], code := .ref 13, frame := some 14 }
noncomputable abbrev cE : Code := Code.body (behindTheImports PG) e41
noncomputable abbrev B0 : List Frame := [topFrame ⟨0, 0, 0, 0⟩]

noncomputable def tree_720 (P : Params) : BT := (.node (boot_o_0 P) (.node (boot_o_1 P) (.node (o_674 P) (.node (boot_o_7 P) (.node (o_51 P) (.node (o_67 P) (.node (o_102 P) (.node (o_174 P) (.node (o_308 P) (.node (o_574 P) .nil .nil) .nil) (.node (o_440 P) (.node (o_708 P) .nil .nil) .nil)) (.node (o_240 P) (.node (o_374 P) (.node (o_640 P) .nil .nil) .nil) (.node (o_506 P) .nil .nil))) (.node (o_140 P) (.node (o_206 P) (.node (o_340 P) (.node (o_608 P) .nil .nil) .nil) (.node (o_474 P) .nil .nil)) (.node (o_272 P) (.node (o_406 P) (.node (o_676 P) .nil .nil) .nil) (.node (o_540 P) .nil .nil)))) (.node (o_86 P) (.node (o_121 P) (.node (o_190 P) (.node (o_324 P) (.node (o_590 P) .nil .nil) .nil) (.node (o_456 P) .nil .nil)) (.node (o_256 P) (.node (o_390 P) (.node (o_656 P) .nil .nil) .nil) (.node (o_524 P) .nil .nil))) (.node (o_156 P) (.node (o_224 P) (.node (o_358 P) (.node (o_624 P) .nil .nil) .nil) (.node (o_490 P) .nil .nil)) (.node (o_288 P) (.node (o_424 P) (.node (o_692 P) .nil .nil) .nil) (.node (o_558 P) .nil .nil))))) (.node (o_59 P) (.node (o_75 P) (.node (o_131 P) (.node (o_182 P) (.node (o_316 P) (.node (o_582 P) .nil .nil) .nil) (.node (o_448 P) (.node (o_716 P) .nil .nil) .nil)) (.node (o_248 P) (.node (o_382 P) (.node (o_648 P) .nil .nil) .nil) (.node (o_516 P) .nil .nil))) (.node (o_148 P) (.node (o_214 P) (.node (o_350 P) (.node (o_616 P) .nil .nil) .nil) (.node (o_482 P) .nil .nil)) (.node (o_280 P) (.node (o_416 P) (.node (o_684 P) .nil .nil) .nil) (.node (o_550 P) .nil .nil)))) (.node (o_94 P) (.node (o_132 P) (.node (o_198 P) (.node (o_332 P) (.node (o_598 P) .nil .nil) .nil) (.node (o_464 P) .nil .nil)) (.node (o_264 P) (.node (o_398 P) (.node (o_664 P) .nil .nil) .nil) (.node (o_532 P) .nil .nil))) (.node (o_164 P) (.node (o_232 P) (.node (o_366 P) (.node (o_632 P) .nil .nil) .nil) (.node (o_498 P) .nil .nil)) (.node (o_300 P) (.node (o_432 P) (.node (o_700 P) .nil .nil) .nil) (.node (o_566 P) .nil .nil)))))) (.node (o_43 P) (.node (o_55 P) (.node (o_71 P) (.node (o_106 P) (.node (o_178 P) (.node (o_312 P) (.node (o_578 P) .nil .nil) .nil) (.node (o_444 P) (.node (o_712 P) .nil .nil) .nil)) (.node (o_244 P) (.node (o_378 P) (.node (o_644 P) .nil .nil) .nil) (.node (o_512 P) .nil .nil))) (.node (o_144 P) (.node (o_210 P) (.node (o_344 P) (.node (o_612 P) .nil .nil) .nil) (.node (o_478 P) .nil .nil)) (.node (o_276 P) (.node (o_412 P) (.node (o_680 P) .nil .nil) .nil) (.node (o_546 P) .nil .nil)))) (.node (o_90 P) (.node (o_125 P) (.node (o_194 P) (.node (o_328 P) (.node (o_594 P) .nil .nil) .nil) (.node (o_460 P) .nil .nil)) (.node (o_260 P) (.node (o_394 P) (.node (o_660 P) .nil .nil) .nil) (.node (o_528 P) .nil .nil))) (.node (o_160 P) (.node (o_228 P) (.node (o_362 P) (.node (o_628 P) .nil .nil) .nil) (.node (o_494 P) .nil .nil)) (.node (o_296 P) (.node (o_428 P) (.node (o_696 P) .nil .nil) .nil) (.node (o_562 P) .nil .nil))))) (.node (o_63 P) (.node (o_79 P) (.node (o_117 P) (.node (o_186 P) (.node (o_320 P) (.node (o_586 P) .nil .nil) .nil) (.node (o_452 P) (.node (o_720 P) .nil .nil) .nil)) (.node (o_252 P) (.node (o_386 P) (.node (o_652 P) .nil .nil) .nil) (.node (o_520 P) .nil .nil))) (.node (o_152 P) (.node (o_218 P) (.node (o_354 P) (.node (o_620 P) .nil .nil) .nil) (.node (o_486 P) .nil .nil)) (.node (o_284 P) (.node (o_420 P) (.node (o_688 P) .nil .nil) .nil) (.node (o_554 P) .nil .nil)))) (.node (o_98 P) (.node (o_136 P) (.node (o_202 P) (.node (o_336 P) (.node (o_604 P) .nil .nil) .nil) (.node (o_470 P) .nil .nil)) (.node (o_268 P) (.node (o_402 P) (.node (o_668 P) .nil .nil) .nil) (.node (o_536 P) .nil .nil))) (.node (o_170 P) (.node (o_236 P) (.node (o_370 P) (.node (o_636 P) .nil .nil) .nil) (.node (o_502 P) .nil .nil)) (.node (o_304 P) (.node (o_436 P) (.node (o_704 P) .nil .nil) .nil) (.node (o_570 P) .nil .nil))))))) (.node (boot_o_5 P) (.node (boot_o_9 P) (.node (o_53 P) (.node (o_69 P) (.node (o_104 P) (.node (o_176 P) (.node (o_310 P) (.node (o_576 P) .nil .nil) .nil) (.node (o_442 P) (.node (o_710 P) .nil .nil) .nil)) (.node (o_242 P) (.node (o_376 P) (.node (o_642 P) .nil .nil) .nil) (.node (o_510 P) .nil .nil))) (.node (o_142 P) (.node (o_208 P) (.node (o_342 P) (.node (o_610 P) .nil .nil) .nil) (.node (o_476 P) .nil .nil)) (.node (o_274 P) (.node (o_408 P) (.node (o_678 P) .nil .nil) .nil) (.node (o_544 P) .nil .nil)))) (.node (o_88 P) (.node (o_123 P) (.node (o_192 P) (.node (o_326 P) (.node (o_592 P) .nil .nil) .nil) (.node (o_458 P) .nil .nil)) (.node (o_258 P) (.node (o_392 P) (.node (o_658 P) .nil .nil) .nil) (.node (o_526 P) .nil .nil))) (.node (o_158 P) (.node (o_226 P) (.node (o_360 P) (.node (o_626 P) .nil .nil) .nil) (.node (o_492 P) .nil .nil)) (.node (o_294 P) (.node (o_426 P) (.node (o_694 P) .nil .nil) .nil) (.node (o_560 P) .nil .nil))))) (.node (o_61 P) (.node (o_77 P) (.node (o_112 P) (.node (o_184 P) (.node (o_318 P) (.node (o_584 P) .nil .nil) .nil) (.node (o_450 P) (.node (o_718 P) .nil .nil) .nil)) (.node (o_250 P) (.node (o_384 P) (.node (o_650 P) .nil .nil) .nil) (.node (o_518 P) .nil .nil))) (.node (o_150 P) (.node (o_216 P) (.node (o_352 P) (.node (o_618 P) .nil .nil) .nil) (.node (o_484 P) .nil .nil)) (.node (o_282 P) (.node (o_418 P) (.node (o_686 P) .nil .nil) .nil) (.node (o_552 P) .nil .nil)))) (.node (o_96 P) (.node (o_134 P) (.node (o_200 P) (.node (o_334 P) (.node (o_602 P) .nil .nil) .nil) (.node (o_466 P) .nil .nil)) (.node (o_266 P) (.node (o_400 P) (.node (o_666 P) .nil .nil) .nil) (.node (o_534 P) .nil .nil))) (.node (o_168 P) (.node (o_234 P) (.node (o_368 P) (.node (o_634 P) .nil .nil) .nil) (.node (o_500 P) .nil .nil)) (.node (o_302 P) (.node (o_434 P) (.node (o_702 P) .nil .nil) .nil) (.node (o_568 P) .nil .nil)))))) (.node (o_45 P) (.node (o_57 P) (.node (o_73 P) (.node (o_108 P) (.node (o_180 P) (.node (o_314 P) (.node (o_580 P) .nil .nil) .nil) (.node (o_446 P) (.node (o_714 P) .nil .nil) .nil)) (.node (o_246 P) (.node (o_380 P) (.node (o_646 P) .nil .nil) .nil) (.node (o_514 P) .nil .nil))) (.node (o_146 P) (.node (o_212 P) (.node (o_346 P) (.node (o_614 P) .nil .nil) .nil) (.node (o_480 P) .nil .nil)) (.node (o_278 P) (.node (o_414 P) (.node (o_682 P) .nil .nil) .nil) (.node (o_548 P) .nil .nil)))) (.node (o_92 P) (.node (o_127 P) (.node (o_196 P) (.node (o_330 P) (.node (o_596 P) .nil .nil) .nil) (.node (o_462 P) .nil .nil)) (.node (o_262 P) (.node (o_396 P) (.node (o_662 P) .nil .nil) .nil) (.node (o_530 P) .nil .nil))) (.node (o_162 P) (.node (o_230 P) (.node (o_364 P) (.node (o_630 P) .nil .nil) .nil) (.node (o_496 P) .nil .nil)) (.node (o_298 P) (.node (o_430 P) (.node (o_698 P) .nil .nil) .nil) (.node (o_564 P) .nil .nil))))) (.node (o_65 P) (.node (o_81 P) (.node (o_119 P) (.node (o_188 P) (.node (o_322 P) (.node (o_588 P) .nil .nil) .nil) (.node (o_454 P) .nil .nil)) (.node (o_254 P) (.node (o_388 P) (.node (o_654 P) .nil .nil) .nil) (.node (o_522 P) .nil .nil))) (.node (o_154 P) (.node (o_220 P) (.node (o_356 P) (.node (o_622 P) .nil .nil) .nil) (.node (o_488 P) .nil .nil)) (.node (o_286 P) (.node (o_422 P) (.node (o_690 P) .nil .nil) .nil) (.node (o_556 P) .nil .nil)))) (.node (o_100 P) (.node (o_138 P) (.node (o_204 P) (.node (o_338 P) (.node (o_606 P) .nil .nil) .nil) (.node (o_472 P) .nil .nil)) (.node (o_270 P) (.node (o_404 P) (.node (o_670 P) .nil .nil) .nil) (.node (o_538 P) .nil .nil))) (.node (o_172 P) (.node (o_238 P) (.node (o_372 P) (.node (o_638 P) .nil .nil) .nil) (.node (o_504 P) .nil .nil)) (.node (o_306 P) (.node (o_438 P) (.node (o_706 P) .nil .nil) .nil) (.node (o_572 P) .nil .nil)))))))) (.node (o_83 P) (.node (boot_o_4 P) (.node (boot_o_8 P) (.node (o_52 P) (.node (o_68 P) (.node (o_103 P) (.node (o_175 P) (.node (o_309 P) (.node (o_575 P) .nil .nil) .nil) (.node (o_441 P) (.node (o_709 P) .nil .nil) .nil)) (.node (o_241 P) (.node (o_375 P) (.node (o_641 P) .nil .nil) .nil) (.node (o_509 P) .nil .nil))) (.node (o_141 P) (.node (o_207 P) (.node (o_341 P) (.node (o_609 P) .nil .nil) .nil) (.node (o_475 P) .nil .nil)) (.node (o_273 P) (.node (o_407 P) (.node (o_677 P) .nil .nil) .nil) (.node (o_541 P) .nil .nil)))) (.node (o_87 P) (.node (o_122 P) (.node (o_191 P) (.node (o_325 P) (.node (o_591 P) .nil .nil) .nil) (.node (o_457 P) .nil .nil)) (.node (o_257 P) (.node (o_391 P) (.node (o_657 P) .nil .nil) .nil) (.node (o_525 P) .nil .nil))) (.node (o_157 P) (.node (o_225 P) (.node (o_359 P) (.node (o_625 P) .nil .nil) .nil) (.node (o_491 P) .nil .nil)) (.node (o_293 P) (.node (o_425 P) (.node (o_693 P) .nil .nil) .nil) (.node (o_559 P) .nil .nil))))) (.node (o_60 P) (.node (o_76 P) (.node (o_111 P) (.node (o_183 P) (.node (o_317 P) (.node (o_583 P) .nil .nil) .nil) (.node (o_449 P) (.node (o_717 P) .nil .nil) .nil)) (.node (o_249 P) (.node (o_383 P) (.node (o_649 P) .nil .nil) .nil) (.node (o_517 P) .nil .nil))) (.node (o_149 P) (.node (o_215 P) (.node (o_351 P) (.node (o_617 P) .nil .nil) .nil) (.node (o_483 P) .nil .nil)) (.node (o_281 P) (.node (o_417 P) (.node (o_685 P) .nil .nil) .nil) (.node (o_551 P) .nil .nil)))) (.node (o_95 P) (.node (o_133 P) (.node (o_199 P) (.node (o_333 P) (.node (o_599 P) .nil .nil) .nil) (.node (o_465 P) .nil .nil)) (.node (o_265 P) (.node (o_399 P) (.node (o_665 P) .nil .nil) .nil) (.node (o_533 P) .nil .nil))) (.node (o_167 P) (.node (o_233 P) (.node (o_367 P) (.node (o_633 P) .nil .nil) .nil) (.node (o_499 P) .nil .nil)) (.node (o_301 P) (.node (o_433 P) (.node (o_701 P) .nil .nil) .nil) (.node (o_567 P) .nil .nil)))))) (.node (o_675 P) (.node (o_56 P) (.node (o_72 P) (.node (o_107 P) (.node (o_179 P) (.node (o_313 P) (.node (o_579 P) .nil .nil) .nil) (.node (o_445 P) (.node (o_713 P) .nil .nil) .nil)) (.node (o_245 P) (.node (o_379 P) (.node (o_645 P) .nil .nil) .nil) (.node (o_513 P) .nil .nil))) (.node (o_145 P) (.node (o_211 P) (.node (o_345 P) (.node (o_613 P) .nil .nil) .nil) (.node (o_479 P) .nil .nil)) (.node (o_277 P) (.node (o_413 P) (.node (o_681 P) .nil .nil) .nil) (.node (o_547 P) .nil .nil)))) (.node (o_91 P) (.node (o_126 P) (.node (o_195 P) (.node (o_329 P) (.node (o_595 P) .nil .nil) .nil) (.node (o_461 P) .nil .nil)) (.node (o_261 P) (.node (o_395 P) (.node (o_661 P) .nil .nil) .nil) (.node (o_529 P) .nil .nil))) (.node (o_161 P) (.node (o_229 P) (.node (o_363 P) (.node (o_629 P) .nil .nil) .nil) (.node (o_495 P) .nil .nil)) (.node (o_297 P) (.node (o_429 P) (.node (o_697 P) .nil .nil) .nil) (.node (o_563 P) .nil .nil))))) (.node (o_64 P) (.node (o_80 P) (.node (o_118 P) (.node (o_187 P) (.node (o_321 P) (.node (o_587 P) .nil .nil) .nil) (.node (o_453 P) .nil .nil)) (.node (o_253 P) (.node (o_387 P) (.node (o_653 P) .nil .nil) .nil) (.node (o_521 P) .nil .nil))) (.node (o_153 P) (.node (o_219 P) (.node (o_355 P) (.node (o_621 P) .nil .nil) .nil) (.node (o_487 P) .nil .nil)) (.node (o_285 P) (.node (o_421 P) (.node (o_689 P) .nil .nil) .nil) (.node (o_555 P) .nil .nil)))) (.node (o_99 P) (.node (o_137 P) (.node (o_203 P) (.node (o_337 P) (.node (o_605 P) .nil .nil) .nil) (.node (o_471 P) .nil .nil)) (.node (o_269 P) (.node (o_403 P) (.node (o_669 P) .nil .nil) .nil) (.node (o_537 P) .nil .nil))) (.node (o_171 P) (.node (o_237 P) (.node (o_371 P) (.node (o_637 P) .nil .nil) .nil) (.node (o_503 P) .nil .nil)) (.node (o_305 P) (.node (o_437 P) (.node (o_705 P) .nil .nil) .nil) (.node (o_571 P) .nil .nil))))))) (.node (boot_o_6 P) (.node (boot_o_10 P) (.node (o_54 P) (.node (o_70 P) (.node (o_105 P) (.node (o_177 P) (.node (o_311 P) (.node (o_577 P) .nil .nil) .nil) (.node (o_443 P) (.node (o_711 P) .nil .nil) .nil)) (.node (o_243 P) (.node (o_377 P) (.node (o_643 P) .nil .nil) .nil) (.node (o_511 P) .nil .nil))) (.node (o_143 P) (.node (o_209 P) (.node (o_343 P) (.node (o_611 P) .nil .nil) .nil) (.node (o_477 P) .nil .nil)) (.node (o_275 P) (.node (o_409 P) (.node (o_679 P) .nil .nil) .nil) (.node (o_545 P) .nil .nil)))) (.node (o_89 P) (.node (o_124 P) (.node (o_193 P) (.node (o_327 P) (.node (o_593 P) .nil .nil) .nil) (.node (o_459 P) .nil .nil)) (.node (o_259 P) (.node (o_393 P) (.node (o_659 P) .nil .nil) .nil) (.node (o_527 P) .nil .nil))) (.node (o_159 P) (.node (o_227 P) (.node (o_361 P) (.node (o_627 P) .nil .nil) .nil) (.node (o_493 P) .nil .nil)) (.node (o_295 P) (.node (o_427 P) (.node (o_695 P) .nil .nil) .nil) (.node (o_561 P) .nil .nil))))) (.node (o_62 P) (.node (o_78 P) (.node (o_113 P) (.node (o_185 P) (.node (o_319 P) (.node (o_585 P) .nil .nil) .nil) (.node (o_451 P) (.node (o_719 P) .nil .nil) .nil)) (.node (o_251 P) (.node (o_385 P) (.node (o_651 P) .nil .nil) .nil) (.node (o_519 P) .nil .nil))) (.node (o_151 P) (.node (o_217 P) (.node (o_353 P) (.node (o_619 P) .nil .nil) .nil) (.node (o_485 P) .nil .nil)) (.node (o_283 P) (.node (o_419 P) (.node (o_687 P) .nil .nil) .nil) (.node (o_553 P) .nil .nil)))) (.node (o_97 P) (.node (o_135 P) (.node (o_201 P) (.node (o_335 P) (.node (o_603 P) .nil .nil) .nil) (.node (o_467 P) .nil .nil)) (.node (o_267 P) (.node (o_401 P) (.node (o_667 P) .nil .nil) .nil) (.node (o_535 P) .nil .nil))) (.node (o_169 P) (.node (o_235 P) (.node (o_369 P) (.node (o_635 P) .nil .nil) .nil) (.node (o_501 P) .nil .nil)) (.node (o_303 P) (.node (o_435 P) (.node (o_703 P) .nil .nil) .nil) (.node (o_569 P) .nil .nil)))))) (.node (o_46 P) (.node (o_58 P) (.node (o_74 P) (.node (o_109 P) (.node (o_181 P) (.node (o_315 P) (.node (o_581 P) .nil .nil) .nil) (.node (o_447 P) (.node (o_715 P) .nil .nil) .nil)) (.node (o_247 P) (.node (o_381 P) (.node (o_647 P) .nil .nil) .nil) (.node (o_515 P) .nil .nil))) (.node (o_147 P) (.node (o_213 P) (.node (o_349 P) (.node (o_615 P) .nil .nil) .nil) (.node (o_481 P) .nil .nil)) (.node (o_279 P) (.node (o_415 P) (.node (o_683 P) .nil .nil) .nil) (.node (o_549 P) .nil .nil)))) (.node (o_93 P) (.node (o_128 P) (.node (o_197 P) (.node (o_331 P) (.node (o_597 P) .nil .nil) .nil) (.node (o_463 P) .nil .nil)) (.node (o_263 P) (.node (o_397 P) (.node (o_663 P) .nil .nil) .nil) (.node (o_531 P) .nil .nil))) (.node (o_163 P) (.node (o_231 P) (.node (o_365 P) (.node (o_631 P) .nil .nil) .nil) (.node (o_497 P) .nil .nil)) (.node (o_299 P) (.node (o_431 P) (.node (o_699 P) .nil .nil) .nil) (.node (o_565 P) .nil .nil))))) (.node (o_66 P) (.node (o_82 P) (.node (o_120 P) (.node (o_189 P) (.node (o_323 P) (.node (o_589 P) .nil .nil) .nil) (.node (o_455 P) .nil .nil)) (.node (o_255 P) (.node (o_389 P) (.node (o_655 P) .nil .nil) .nil) (.node (o_523 P) .nil .nil))) (.node (o_155 P) (.node (o_223 P) (.node (o_357 P) (.node (o_623 P) .nil .nil) .nil) (.node (o_489 P) .nil .nil)) (.node (o_287 P) (.node (o_423 P) (.node (o_691 P) .nil .nil) .nil) (.node (o_557 P) .nil .nil)))) (.node (o_101 P) (.node (o_139 P) (.node (o_205 P) (.node (o_339 P) (.node (o_607 P) .nil .nil) .nil) (.node (o_473 P) .nil .nil)) (.node (o_271 P) (.node (o_405 P) (.node (o_671 P) .nil .nil) .nil) (.node (o_539 P) .nil .nil))) (.node (o_173 P) (.node (o_239 P) (.node (o_373 P) (.node (o_639 P) .nil .nil) .nil) (.node (o_505 P) .nil .nil)) (.node (o_307 P) (.node (o_439 P) (.node (o_707 P) .nil .nil) .nil) (.node (o_573 P) .nil .nil)))))))))
noncomputable def tree_113 (P : Params) : BT := (.node (boot_o_0 P) (.node (boot_o_1 P) (.node (o_84 P) (.node (boot_o_7 P) (.node (o_51 P) (.node (o_67 P) (.node (o_102 P) .nil .nil) .nil) (.node (o_86 P) .nil .nil)) (.node (o_59 P) (.node (o_75 P) (.node (o_110 P) .nil .nil) .nil) (.node (o_94 P) .nil .nil))) (.node (o_43 P) (.node (o_55 P) (.node (o_71 P) (.node (o_106 P) .nil .nil) .nil) (.node (o_90 P) .nil .nil)) (.node (o_63 P) (.node (o_79 P) .nil .nil) (.node (o_98 P) .nil .nil)))) (.node (boot_o_5 P) (.node (boot_o_9 P) (.node (o_53 P) (.node (o_69 P) (.node (o_104 P) .nil .nil) .nil) (.node (o_88 P) .nil .nil)) (.node (o_61 P) (.node (o_77 P) (.node (o_112 P) .nil .nil) .nil) (.node (o_96 P) .nil .nil))) (.node (o_45 P) (.node (o_57 P) (.node (o_73 P) (.node (o_108 P) .nil .nil) .nil) (.node (o_92 P) .nil .nil)) (.node (o_65 P) (.node (o_81 P) .nil .nil) (.node (o_100 P) .nil .nil))))) (.node (o_83 P) (.node (boot_o_4 P) (.node (boot_o_8 P) (.node (o_52 P) (.node (o_68 P) (.node (o_103 P) .nil .nil) .nil) (.node (o_87 P) .nil .nil)) (.node (o_60 P) (.node (o_76 P) (.node (o_111 P) .nil .nil) .nil) (.node (o_95 P) .nil .nil))) (.node (o_85 P) (.node (o_56 P) (.node (o_72 P) (.node (o_107 P) .nil .nil) .nil) (.node (o_91 P) .nil .nil)) (.node (o_64 P) (.node (o_80 P) .nil .nil) (.node (o_99 P) .nil .nil)))) (.node (boot_o_6 P) (.node (boot_o_10 P) (.node (o_54 P) (.node (o_70 P) (.node (o_105 P) .nil .nil) .nil) (.node (o_89 P) .nil .nil)) (.node (o_62 P) (.node (o_78 P) (.node (o_113 P) .nil .nil) .nil) (.node (o_97 P) .nil .nil))) (.node (o_46 P) (.node (o_58 P) (.node (o_74 P) (.node (o_109 P) .nil .nil) .nil) (.node (o_93 P) .nil .nil)) (.node (o_66 P) (.node (o_82 P) .nil .nil) (.node (o_101 P) .nil .nil))))))
noncomputable def tree_541 (P : Params) : BT := (.node (boot_o_0 P) (.node (boot_o_1 P) (.node (o_507 P) (.node (boot_o_7 P) (.node (o_51 P) (.node (o_67 P) (.node (o_102 P) (.node (o_174 P) (.node (o_308 P) .nil .nil) (.node (o_440 P) .nil .nil)) (.node (o_240 P) (.node (o_374 P) .nil .nil) (.node (o_506 P) .nil .nil))) (.node (o_140 P) (.node (o_206 P) (.node (o_340 P) .nil .nil) (.node (o_474 P) .nil .nil)) (.node (o_272 P) (.node (o_406 P) .nil .nil) (.node (o_540 P) .nil .nil)))) (.node (o_86 P) (.node (o_121 P) (.node (o_190 P) (.node (o_324 P) .nil .nil) (.node (o_456 P) .nil .nil)) (.node (o_256 P) (.node (o_390 P) .nil .nil) (.node (o_524 P) .nil .nil))) (.node (o_156 P) (.node (o_224 P) (.node (o_358 P) .nil .nil) (.node (o_490 P) .nil .nil)) (.node (o_288 P) (.node (o_424 P) .nil .nil) .nil)))) (.node (o_59 P) (.node (o_75 P) (.node (o_131 P) (.node (o_182 P) (.node (o_316 P) .nil .nil) (.node (o_448 P) .nil .nil)) (.node (o_248 P) (.node (o_382 P) .nil .nil) (.node (o_516 P) .nil .nil))) (.node (o_148 P) (.node (o_214 P) (.node (o_350 P) .nil .nil) (.node (o_482 P) .nil .nil)) (.node (o_280 P) (.node (o_416 P) .nil .nil) .nil))) (.node (o_94 P) (.node (o_132 P) (.node (o_198 P) (.node (o_332 P) .nil .nil) (.node (o_464 P) .nil .nil)) (.node (o_264 P) (.node (o_398 P) .nil .nil) (.node (o_532 P) .nil .nil))) (.node (o_164 P) (.node (o_232 P) (.node (o_366 P) .nil .nil) (.node (o_498 P) .nil .nil)) (.node (o_300 P) (.node (o_432 P) .nil .nil) .nil))))) (.node (o_43 P) (.node (o_55 P) (.node (o_71 P) (.node (o_106 P) (.node (o_178 P) (.node (o_312 P) .nil .nil) (.node (o_444 P) .nil .nil)) (.node (o_244 P) (.node (o_378 P) .nil .nil) (.node (o_512 P) .nil .nil))) (.node (o_144 P) (.node (o_210 P) (.node (o_344 P) .nil .nil) (.node (o_478 P) .nil .nil)) (.node (o_276 P) (.node (o_412 P) .nil .nil) .nil))) (.node (o_90 P) (.node (o_125 P) (.node (o_194 P) (.node (o_328 P) .nil .nil) (.node (o_460 P) .nil .nil)) (.node (o_260 P) (.node (o_394 P) .nil .nil) (.node (o_528 P) .nil .nil))) (.node (o_160 P) (.node (o_228 P) (.node (o_362 P) .nil .nil) (.node (o_494 P) .nil .nil)) (.node (o_296 P) (.node (o_428 P) .nil .nil) .nil)))) (.node (o_63 P) (.node (o_79 P) (.node (o_117 P) (.node (o_186 P) (.node (o_320 P) .nil .nil) (.node (o_452 P) .nil .nil)) (.node (o_252 P) (.node (o_386 P) .nil .nil) (.node (o_520 P) .nil .nil))) (.node (o_152 P) (.node (o_218 P) (.node (o_354 P) .nil .nil) (.node (o_486 P) .nil .nil)) (.node (o_284 P) (.node (o_420 P) .nil .nil) .nil))) (.node (o_98 P) (.node (o_136 P) (.node (o_202 P) (.node (o_336 P) .nil .nil) (.node (o_470 P) .nil .nil)) (.node (o_268 P) (.node (o_402 P) .nil .nil) (.node (o_536 P) .nil .nil))) (.node (o_170 P) (.node (o_236 P) (.node (o_370 P) .nil .nil) (.node (o_502 P) .nil .nil)) (.node (o_304 P) (.node (o_436 P) .nil .nil) .nil)))))) (.node (boot_o_5 P) (.node (boot_o_9 P) (.node (o_53 P) (.node (o_69 P) (.node (o_104 P) (.node (o_176 P) (.node (o_310 P) .nil .nil) (.node (o_442 P) .nil .nil)) (.node (o_242 P) (.node (o_376 P) .nil .nil) (.node (o_510 P) .nil .nil))) (.node (o_142 P) (.node (o_208 P) (.node (o_342 P) .nil .nil) (.node (o_476 P) .nil .nil)) (.node (o_274 P) (.node (o_408 P) .nil .nil) .nil))) (.node (o_88 P) (.node (o_123 P) (.node (o_192 P) (.node (o_326 P) .nil .nil) (.node (o_458 P) .nil .nil)) (.node (o_258 P) (.node (o_392 P) .nil .nil) (.node (o_526 P) .nil .nil))) (.node (o_158 P) (.node (o_226 P) (.node (o_360 P) .nil .nil) (.node (o_492 P) .nil .nil)) (.node (o_294 P) (.node (o_426 P) .nil .nil) .nil)))) (.node (o_61 P) (.node (o_77 P) (.node (o_112 P) (.node (o_184 P) (.node (o_318 P) .nil .nil) (.node (o_450 P) .nil .nil)) (.node (o_250 P) (.node (o_384 P) .nil .nil) (.node (o_518 P) .nil .nil))) (.node (o_150 P) (.node (o_216 P) (.node (o_352 P) .nil .nil) (.node (o_484 P) .nil .nil)) (.node (o_282 P) (.node (o_418 P) .nil .nil) .nil))) (.node (o_96 P) (.node (o_134 P) (.node (o_200 P) (.node (o_334 P) .nil .nil) (.node (o_466 P) .nil .nil)) (.node (o_266 P) (.node (o_400 P) .nil .nil) (.node (o_534 P) .nil .nil))) (.node (o_168 P) (.node (o_234 P) (.node (o_368 P) .nil .nil) (.node (o_500 P) .nil .nil)) (.node (o_302 P) (.node (o_434 P) .nil .nil) .nil))))) (.node (o_45 P) (.node (o_57 P) (.node (o_73 P) (.node (o_108 P) (.node (o_180 P) (.node (o_314 P) .nil .nil) (.node (o_446 P) .nil .nil)) (.node (o_246 P) (.node (o_380 P) .nil .nil) (.node (o_514 P) .nil .nil))) (.node (o_146 P) (.node (o_212 P) (.node (o_346 P) .nil .nil) (.node (o_480 P) .nil .nil)) (.node (o_278 P) (.node (o_414 P) .nil .nil) .nil))) (.node (o_92 P) (.node (o_127 P) (.node (o_196 P) (.node (o_330 P) .nil .nil) (.node (o_462 P) .nil .nil)) (.node (o_262 P) (.node (o_396 P) .nil .nil) (.node (o_530 P) .nil .nil))) (.node (o_162 P) (.node (o_230 P) (.node (o_364 P) .nil .nil) (.node (o_496 P) .nil .nil)) (.node (o_298 P) (.node (o_430 P) .nil .nil) .nil)))) (.node (o_65 P) (.node (o_81 P) (.node (o_119 P) (.node (o_188 P) (.node (o_322 P) .nil .nil) (.node (o_454 P) .nil .nil)) (.node (o_254 P) (.node (o_388 P) .nil .nil) (.node (o_522 P) .nil .nil))) (.node (o_154 P) (.node (o_220 P) (.node (o_356 P) .nil .nil) (.node (o_488 P) .nil .nil)) (.node (o_286 P) (.node (o_422 P) .nil .nil) .nil))) (.node (o_100 P) (.node (o_138 P) (.node (o_204 P) (.node (o_338 P) .nil .nil) (.node (o_472 P) .nil .nil)) (.node (o_270 P) (.node (o_404 P) .nil .nil) (.node (o_538 P) .nil .nil))) (.node (o_172 P) (.node (o_238 P) (.node (o_372 P) .nil .nil) (.node (o_504 P) .nil .nil)) (.node (o_306 P) (.node (o_438 P) .nil .nil) .nil))))))) (.node (o_83 P) (.node (boot_o_4 P) (.node (boot_o_8 P) (.node (o_52 P) (.node (o_68 P) (.node (o_103 P) (.node (o_175 P) (.node (o_309 P) .nil .nil) (.node (o_441 P) .nil .nil)) (.node (o_241 P) (.node (o_375 P) .nil .nil) (.node (o_509 P) .nil .nil))) (.node (o_141 P) (.node (o_207 P) (.node (o_341 P) .nil .nil) (.node (o_475 P) .nil .nil)) (.node (o_273 P) (.node (o_407 P) .nil .nil) (.node (o_541 P) .nil .nil)))) (.node (o_87 P) (.node (o_122 P) (.node (o_191 P) (.node (o_325 P) .nil .nil) (.node (o_457 P) .nil .nil)) (.node (o_257 P) (.node (o_391 P) .nil .nil) (.node (o_525 P) .nil .nil))) (.node (o_157 P) (.node (o_225 P) (.node (o_359 P) .nil .nil) (.node (o_491 P) .nil .nil)) (.node (o_293 P) (.node (o_425 P) .nil .nil) .nil)))) (.node (o_60 P) (.node (o_76 P) (.node (o_111 P) (.node (o_183 P) (.node (o_317 P) .nil .nil) (.node (o_449 P) .nil .nil)) (.node (o_249 P) (.node (o_383 P) .nil .nil) (.node (o_517 P) .nil .nil))) (.node (o_149 P) (.node (o_215 P) (.node (o_351 P) .nil .nil) (.node (o_483 P) .nil .nil)) (.node (o_281 P) (.node (o_417 P) .nil .nil) .nil))) (.node (o_95 P) (.node (o_133 P) (.node (o_199 P) (.node (o_333 P) .nil .nil) (.node (o_465 P) .nil .nil)) (.node (o_265 P) (.node (o_399 P) .nil .nil) (.node (o_533 P) .nil .nil))) (.node (o_167 P) (.node (o_233 P) (.node (o_367 P) .nil .nil) (.node (o_499 P) .nil .nil)) (.node (o_301 P) (.node (o_433 P) .nil .nil) .nil))))) (.node (o_508 P) (.node (o_56 P) (.node (o_72 P) (.node (o_107 P) (.node (o_179 P) (.node (o_313 P) .nil .nil) (.node (o_445 P) .nil .nil)) (.node (o_245 P) (.node (o_379 P) .nil .nil) (.node (o_513 P) .nil .nil))) (.node (o_145 P) (.node (o_211 P) (.node (o_345 P) .nil .nil) (.node (o_479 P) .nil .nil)) (.node (o_277 P) (.node (o_413 P) .nil .nil) .nil))) (.node (o_91 P) (.node (o_126 P) (.node (o_195 P) (.node (o_329 P) .nil .nil) (.node (o_461 P) .nil .nil)) (.node (o_261 P) (.node (o_395 P) .nil .nil) (.node (o_529 P) .nil .nil))) (.node (o_161 P) (.node (o_229 P) (.node (o_363 P) .nil .nil) (.node (o_495 P) .nil .nil)) (.node (o_297 P) (.node (o_429 P) .nil .nil) .nil)))) (.node (o_64 P) (.node (o_80 P) (.node (o_118 P) (.node (o_187 P) (.node (o_321 P) .nil .nil) (.node (o_453 P) .nil .nil)) (.node (o_253 P) (.node (o_387 P) .nil .nil) (.node (o_521 P) .nil .nil))) (.node (o_153 P) (.node (o_219 P) (.node (o_355 P) .nil .nil) (.node (o_487 P) .nil .nil)) (.node (o_285 P) (.node (o_421 P) .nil .nil) .nil))) (.node (o_99 P) (.node (o_137 P) (.node (o_203 P) (.node (o_337 P) .nil .nil) (.node (o_471 P) .nil .nil)) (.node (o_269 P) (.node (o_403 P) .nil .nil) (.node (o_537 P) .nil .nil))) (.node (o_171 P) (.node (o_237 P) (.node (o_371 P) .nil .nil) (.node (o_503 P) .nil .nil)) (.node (o_305 P) (.node (o_437 P) .nil .nil) .nil)))))) (.node (boot_o_6 P) (.node (boot_o_10 P) (.node (o_54 P) (.node (o_70 P) (.node (o_105 P) (.node (o_177 P) (.node (o_311 P) .nil .nil) (.node (o_443 P) .nil .nil)) (.node (o_243 P) (.node (o_377 P) .nil .nil) (.node (o_511 P) .nil .nil))) (.node (o_143 P) (.node (o_209 P) (.node (o_343 P) .nil .nil) (.node (o_477 P) .nil .nil)) (.node (o_275 P) (.node (o_409 P) .nil .nil) .nil))) (.node (o_89 P) (.node (o_124 P) (.node (o_193 P) (.node (o_327 P) .nil .nil) (.node (o_459 P) .nil .nil)) (.node (o_259 P) (.node (o_393 P) .nil .nil) (.node (o_527 P) .nil .nil))) (.node (o_159 P) (.node (o_227 P) (.node (o_361 P) .nil .nil) (.node (o_493 P) .nil .nil)) (.node (o_295 P) (.node (o_427 P) .nil .nil) .nil)))) (.node (o_62 P) (.node (o_78 P) (.node (o_113 P) (.node (o_185 P) (.node (o_319 P) .nil .nil) (.node (o_451 P) .nil .nil)) (.node (o_251 P) (.node (o_385 P) .nil .nil) (.node (o_519 P) .nil .nil))) (.node (o_151 P) (.node (o_217 P) (.node (o_353 P) .nil .nil) (.node (o_485 P) .nil .nil)) (.node (o_283 P) (.node (o_419 P) .nil .nil) .nil))) (.node (o_97 P) (.node (o_135 P) (.node (o_201 P) (.node (o_335 P) .nil .nil) (.node (o_467 P) .nil .nil)) (.node (o_267 P) (.node (o_401 P) .nil .nil) (.node (o_535 P) .nil .nil))) (.node (o_169 P) (.node (o_235 P) (.node (o_369 P) .nil .nil) (.node (o_501 P) .nil .nil)) (.node (o_303 P) (.node (o_435 P) .nil .nil) .nil))))) (.node (o_46 P) (.node (o_58 P) (.node (o_74 P) (.node (o_109 P) (.node (o_181 P) (.node (o_315 P) .nil .nil) (.node (o_447 P) .nil .nil)) (.node (o_247 P) (.node (o_381 P) .nil .nil) (.node (o_515 P) .nil .nil))) (.node (o_147 P) (.node (o_213 P) (.node (o_349 P) .nil .nil) (.node (o_481 P) .nil .nil)) (.node (o_279 P) (.node (o_415 P) .nil .nil) .nil))) (.node (o_93 P) (.node (o_128 P) (.node (o_197 P) (.node (o_331 P) .nil .nil) (.node (o_463 P) .nil .nil)) (.node (o_263 P) (.node (o_397 P) .nil .nil) (.node (o_531 P) .nil .nil))) (.node (o_163 P) (.node (o_231 P) (.node (o_365 P) .nil .nil) (.node (o_497 P) .nil .nil)) (.node (o_299 P) (.node (o_431 P) .nil .nil) .nil)))) (.node (o_66 P) (.node (o_82 P) (.node (o_120 P) (.node (o_189 P) (.node (o_323 P) .nil .nil) (.node (o_455 P) .nil .nil)) (.node (o_255 P) (.node (o_389 P) .nil .nil) (.node (o_523 P) .nil .nil))) (.node (o_155 P) (.node (o_223 P) (.node (o_357 P) .nil .nil) (.node (o_489 P) .nil .nil)) (.node (o_287 P) (.node (o_423 P) .nil .nil) .nil))) (.node (o_101 P) (.node (o_139 P) (.node (o_205 P) (.node (o_339 P) .nil .nil) (.node (o_473 P) .nil .nil)) (.node (o_271 P) (.node (o_405 P) .nil .nil) (.node (o_539 P) .nil .nil))) (.node (o_173 P) (.node (o_239 P) (.node (o_373 P) .nil .nil) (.node (o_505 P) .nil .nil)) (.node (o_307 P) (.node (o_439 P) .nil .nil) .nil))))))))
noncomputable def tree_128 (P : Params) : BT := (.node (boot_o_0 P) (.node (boot_o_1 P) (.node (o_114 P) (.node (boot_o_7 P) (.node (o_51 P) (.node (o_67 P) (.node (o_102 P) .nil .nil) .nil) (.node (o_86 P) (.node (o_121 P) .nil .nil) .nil)) (.node (o_59 P) (.node (o_75 P) (.node (o_116 P) .nil .nil) .nil) (.node (o_94 P) .nil .nil))) (.node (o_43 P) (.node (o_55 P) (.node (o_71 P) (.node (o_106 P) .nil .nil) .nil) (.node (o_90 P) (.node (o_125 P) .nil .nil) .nil)) (.node (o_63 P) (.node (o_79 P) (.node (o_117 P) .nil .nil) .nil) (.node (o_98 P) .nil .nil)))) (.node (boot_o_5 P) (.node (boot_o_9 P) (.node (o_53 P) (.node (o_69 P) (.node (o_104 P) .nil .nil) .nil) (.node (o_88 P) (.node (o_123 P) .nil .nil) .nil)) (.node (o_61 P) (.node (o_77 P) (.node (o_112 P) .nil .nil) .nil) (.node (o_96 P) .nil .nil))) (.node (o_45 P) (.node (o_57 P) (.node (o_73 P) (.node (o_108 P) .nil .nil) .nil) (.node (o_92 P) (.node (o_127 P) .nil .nil) .nil)) (.node (o_65 P) (.node (o_81 P) (.node (o_119 P) .nil .nil) .nil) (.node (o_100 P) .nil .nil))))) (.node (o_83 P) (.node (boot_o_4 P) (.node (boot_o_8 P) (.node (o_52 P) (.node (o_68 P) (.node (o_103 P) .nil .nil) .nil) (.node (o_87 P) (.node (o_122 P) .nil .nil) .nil)) (.node (o_60 P) (.node (o_76 P) (.node (o_111 P) .nil .nil) .nil) (.node (o_95 P) .nil .nil))) (.node (o_115 P) (.node (o_56 P) (.node (o_72 P) (.node (o_107 P) .nil .nil) .nil) (.node (o_91 P) (.node (o_126 P) .nil .nil) .nil)) (.node (o_64 P) (.node (o_80 P) (.node (o_118 P) .nil .nil) .nil) (.node (o_99 P) .nil .nil)))) (.node (boot_o_6 P) (.node (boot_o_10 P) (.node (o_54 P) (.node (o_70 P) (.node (o_105 P) .nil .nil) .nil) (.node (o_89 P) (.node (o_124 P) .nil .nil) .nil)) (.node (o_62 P) (.node (o_78 P) (.node (o_113 P) .nil .nil) .nil) (.node (o_97 P) .nil .nil))) (.node (o_46 P) (.node (o_58 P) (.node (o_74 P) (.node (o_109 P) .nil .nil) .nil) (.node (o_93 P) (.node (o_128 P) .nil .nil) .nil)) (.node (o_66 P) (.node (o_82 P) (.node (o_120 P) .nil .nil) .nil) (.node (o_101 P) .nil .nil))))))
noncomputable def tree_220 (P : Params) : BT := (.node (boot_o_0 P) (.node (boot_o_1 P) (.node (o_165 P) (.node (boot_o_7 P) (.node (o_51 P) (.node (o_67 P) (.node (o_102 P) (.node (o_174 P) .nil .nil) .nil) (.node (o_140 P) (.node (o_206 P) .nil .nil) .nil)) (.node (o_86 P) (.node (o_121 P) (.node (o_190 P) .nil .nil) .nil) (.node (o_156 P) .nil .nil))) (.node (o_59 P) (.node (o_75 P) (.node (o_131 P) (.node (o_182 P) .nil .nil) .nil) (.node (o_148 P) (.node (o_214 P) .nil .nil) .nil)) (.node (o_94 P) (.node (o_132 P) (.node (o_198 P) .nil .nil) .nil) (.node (o_164 P) .nil .nil)))) (.node (o_43 P) (.node (o_55 P) (.node (o_71 P) (.node (o_106 P) (.node (o_178 P) .nil .nil) .nil) (.node (o_144 P) (.node (o_210 P) .nil .nil) .nil)) (.node (o_90 P) (.node (o_125 P) (.node (o_194 P) .nil .nil) .nil) (.node (o_160 P) .nil .nil))) (.node (o_63 P) (.node (o_79 P) (.node (o_117 P) (.node (o_186 P) .nil .nil) .nil) (.node (o_152 P) (.node (o_218 P) .nil .nil) .nil)) (.node (o_98 P) (.node (o_136 P) (.node (o_202 P) .nil .nil) .nil) (.node (o_170 P) .nil .nil))))) (.node (boot_o_5 P) (.node (boot_o_9 P) (.node (o_53 P) (.node (o_69 P) (.node (o_104 P) (.node (o_176 P) .nil .nil) .nil) (.node (o_142 P) (.node (o_208 P) .nil .nil) .nil)) (.node (o_88 P) (.node (o_123 P) (.node (o_192 P) .nil .nil) .nil) (.node (o_158 P) .nil .nil))) (.node (o_61 P) (.node (o_77 P) (.node (o_112 P) (.node (o_184 P) .nil .nil) .nil) (.node (o_150 P) (.node (o_216 P) .nil .nil) .nil)) (.node (o_96 P) (.node (o_134 P) (.node (o_200 P) .nil .nil) .nil) (.node (o_168 P) .nil .nil)))) (.node (o_45 P) (.node (o_57 P) (.node (o_73 P) (.node (o_108 P) (.node (o_180 P) .nil .nil) .nil) (.node (o_146 P) (.node (o_212 P) .nil .nil) .nil)) (.node (o_92 P) (.node (o_127 P) (.node (o_196 P) .nil .nil) .nil) (.node (o_162 P) .nil .nil))) (.node (o_65 P) (.node (o_81 P) (.node (o_119 P) (.node (o_188 P) .nil .nil) .nil) (.node (o_154 P) (.node (o_220 P) .nil .nil) .nil)) (.node (o_100 P) (.node (o_138 P) (.node (o_204 P) .nil .nil) .nil) (.node (o_172 P) .nil .nil)))))) (.node (o_83 P) (.node (boot_o_4 P) (.node (boot_o_8 P) (.node (o_52 P) (.node (o_68 P) (.node (o_103 P) (.node (o_175 P) .nil .nil) .nil) (.node (o_141 P) (.node (o_207 P) .nil .nil) .nil)) (.node (o_87 P) (.node (o_122 P) (.node (o_191 P) .nil .nil) .nil) (.node (o_157 P) .nil .nil))) (.node (o_60 P) (.node (o_76 P) (.node (o_111 P) (.node (o_183 P) .nil .nil) .nil) (.node (o_149 P) (.node (o_215 P) .nil .nil) .nil)) (.node (o_95 P) (.node (o_133 P) (.node (o_199 P) .nil .nil) .nil) (.node (o_167 P) .nil .nil)))) (.node (o_166 P) (.node (o_56 P) (.node (o_72 P) (.node (o_107 P) (.node (o_179 P) .nil .nil) .nil) (.node (o_145 P) (.node (o_211 P) .nil .nil) .nil)) (.node (o_91 P) (.node (o_126 P) (.node (o_195 P) .nil .nil) .nil) (.node (o_161 P) .nil .nil))) (.node (o_64 P) (.node (o_80 P) (.node (o_118 P) (.node (o_187 P) .nil .nil) .nil) (.node (o_153 P) (.node (o_219 P) .nil .nil) .nil)) (.node (o_99 P) (.node (o_137 P) (.node (o_203 P) .nil .nil) .nil) (.node (o_171 P) .nil .nil))))) (.node (boot_o_6 P) (.node (boot_o_10 P) (.node (o_54 P) (.node (o_70 P) (.node (o_105 P) (.node (o_177 P) .nil .nil) .nil) (.node (o_143 P) (.node (o_209 P) .nil .nil) .nil)) (.node (o_89 P) (.node (o_124 P) (.node (o_193 P) .nil .nil) .nil) (.node (o_159 P) .nil .nil))) (.node (o_62 P) (.node (o_78 P) (.node (o_113 P) (.node (o_185 P) .nil .nil) .nil) (.node (o_151 P) (.node (o_217 P) .nil .nil) .nil)) (.node (o_97 P) (.node (o_135 P) (.node (o_201 P) .nil .nil) .nil) (.node (o_169 P) .nil .nil)))) (.node (o_46 P) (.node (o_58 P) (.node (o_74 P) (.node (o_109 P) (.node (o_181 P) .nil .nil) .nil) (.node (o_147 P) (.node (o_213 P) .nil .nil) .nil)) (.node (o_93 P) (.node (o_128 P) (.node (o_197 P) .nil .nil) .nil) (.node (o_163 P) .nil .nil))) (.node (o_66 P) (.node (o_82 P) (.node (o_120 P) (.node (o_189 P) .nil .nil) .nil) (.node (o_155 P) .nil .nil)) (.node (o_101 P) (.node (o_139 P) (.node (o_205 P) .nil .nil) .nil) (.node (o_173 P) .nil .nil)))))))
noncomputable def tree_467 (P : Params) : BT := (.node (boot_o_0 P) (.node (boot_o_1 P) (.node (o_410 P) (.node (boot_o_7 P) (.node (o_51 P) (.node (o_67 P) (.node (o_102 P) (.node (o_174 P) (.node (o_308 P) .nil .nil) (.node (o_440 P) .nil .nil)) (.node (o_240 P) (.node (o_374 P) .nil .nil) .nil)) (.node (o_140 P) (.node (o_206 P) (.node (o_340 P) .nil .nil) .nil) (.node (o_272 P) (.node (o_406 P) .nil .nil) .nil))) (.node (o_86 P) (.node (o_121 P) (.node (o_190 P) (.node (o_324 P) .nil .nil) (.node (o_456 P) .nil .nil)) (.node (o_256 P) (.node (o_390 P) .nil .nil) .nil)) (.node (o_156 P) (.node (o_224 P) (.node (o_358 P) .nil .nil) .nil) (.node (o_288 P) (.node (o_424 P) .nil .nil) .nil)))) (.node (o_59 P) (.node (o_75 P) (.node (o_131 P) (.node (o_182 P) (.node (o_316 P) .nil .nil) (.node (o_448 P) .nil .nil)) (.node (o_248 P) (.node (o_382 P) .nil .nil) .nil)) (.node (o_148 P) (.node (o_214 P) (.node (o_350 P) .nil .nil) .nil) (.node (o_280 P) (.node (o_416 P) .nil .nil) .nil))) (.node (o_94 P) (.node (o_132 P) (.node (o_198 P) (.node (o_332 P) .nil .nil) (.node (o_464 P) .nil .nil)) (.node (o_264 P) (.node (o_398 P) .nil .nil) .nil)) (.node (o_164 P) (.node (o_232 P) (.node (o_366 P) .nil .nil) .nil) (.node (o_300 P) (.node (o_432 P) .nil .nil) .nil))))) (.node (o_43 P) (.node (o_55 P) (.node (o_71 P) (.node (o_106 P) (.node (o_178 P) (.node (o_312 P) .nil .nil) (.node (o_444 P) .nil .nil)) (.node (o_244 P) (.node (o_378 P) .nil .nil) .nil)) (.node (o_144 P) (.node (o_210 P) (.node (o_344 P) .nil .nil) .nil) (.node (o_276 P) (.node (o_412 P) .nil .nil) .nil))) (.node (o_90 P) (.node (o_125 P) (.node (o_194 P) (.node (o_328 P) .nil .nil) (.node (o_460 P) .nil .nil)) (.node (o_260 P) (.node (o_394 P) .nil .nil) .nil)) (.node (o_160 P) (.node (o_228 P) (.node (o_362 P) .nil .nil) .nil) (.node (o_296 P) (.node (o_428 P) .nil .nil) .nil)))) (.node (o_63 P) (.node (o_79 P) (.node (o_117 P) (.node (o_186 P) (.node (o_320 P) .nil .nil) (.node (o_452 P) .nil .nil)) (.node (o_252 P) (.node (o_386 P) .nil .nil) .nil)) (.node (o_152 P) (.node (o_218 P) (.node (o_354 P) .nil .nil) .nil) (.node (o_284 P) (.node (o_420 P) .nil .nil) .nil))) (.node (o_98 P) (.node (o_136 P) (.node (o_202 P) (.node (o_336 P) .nil .nil) .nil) (.node (o_268 P) (.node (o_402 P) .nil .nil) .nil)) (.node (o_170 P) (.node (o_236 P) (.node (o_370 P) .nil .nil) .nil) (.node (o_304 P) (.node (o_436 P) .nil .nil) .nil)))))) (.node (boot_o_5 P) (.node (boot_o_9 P) (.node (o_53 P) (.node (o_69 P) (.node (o_104 P) (.node (o_176 P) (.node (o_310 P) .nil .nil) (.node (o_442 P) .nil .nil)) (.node (o_242 P) (.node (o_376 P) .nil .nil) .nil)) (.node (o_142 P) (.node (o_208 P) (.node (o_342 P) .nil .nil) .nil) (.node (o_274 P) (.node (o_408 P) .nil .nil) .nil))) (.node (o_88 P) (.node (o_123 P) (.node (o_192 P) (.node (o_326 P) .nil .nil) (.node (o_458 P) .nil .nil)) (.node (o_258 P) (.node (o_392 P) .nil .nil) .nil)) (.node (o_158 P) (.node (o_226 P) (.node (o_360 P) .nil .nil) .nil) (.node (o_294 P) (.node (o_426 P) .nil .nil) .nil)))) (.node (o_61 P) (.node (o_77 P) (.node (o_112 P) (.node (o_184 P) (.node (o_318 P) .nil .nil) (.node (o_450 P) .nil .nil)) (.node (o_250 P) (.node (o_384 P) .nil .nil) .nil)) (.node (o_150 P) (.node (o_216 P) (.node (o_352 P) .nil .nil) .nil) (.node (o_282 P) (.node (o_418 P) .nil .nil) .nil))) (.node (o_96 P) (.node (o_134 P) (.node (o_200 P) (.node (o_334 P) .nil .nil) (.node (o_466 P) .nil .nil)) (.node (o_266 P) (.node (o_400 P) .nil .nil) .nil)) (.node (o_168 P) (.node (o_234 P) (.node (o_368 P) .nil .nil) .nil) (.node (o_302 P) (.node (o_434 P) .nil .nil) .nil))))) (.node (o_45 P) (.node (o_57 P) (.node (o_73 P) (.node (o_108 P) (.node (o_180 P) (.node (o_314 P) .nil .nil) (.node (o_446 P) .nil .nil)) (.node (o_246 P) (.node (o_380 P) .nil .nil) .nil)) (.node (o_146 P) (.node (o_212 P) (.node (o_346 P) .nil .nil) .nil) (.node (o_278 P) (.node (o_414 P) .nil .nil) .nil))) (.node (o_92 P) (.node (o_127 P) (.node (o_196 P) (.node (o_330 P) .nil .nil) (.node (o_462 P) .nil .nil)) (.node (o_262 P) (.node (o_396 P) .nil .nil) .nil)) (.node (o_162 P) (.node (o_230 P) (.node (o_364 P) .nil .nil) .nil) (.node (o_298 P) (.node (o_430 P) .nil .nil) .nil)))) (.node (o_65 P) (.node (o_81 P) (.node (o_119 P) (.node (o_188 P) (.node (o_322 P) .nil .nil) (.node (o_454 P) .nil .nil)) (.node (o_254 P) (.node (o_388 P) .nil .nil) .nil)) (.node (o_154 P) (.node (o_220 P) (.node (o_356 P) .nil .nil) .nil) (.node (o_286 P) (.node (o_422 P) .nil .nil) .nil))) (.node (o_100 P) (.node (o_138 P) (.node (o_204 P) (.node (o_338 P) .nil .nil) .nil) (.node (o_270 P) (.node (o_404 P) .nil .nil) .nil)) (.node (o_172 P) (.node (o_238 P) (.node (o_372 P) .nil .nil) .nil) (.node (o_306 P) (.node (o_438 P) .nil .nil) .nil))))))) (.node (o_83 P) (.node (boot_o_4 P) (.node (boot_o_8 P) (.node (o_52 P) (.node (o_68 P) (.node (o_103 P) (.node (o_175 P) (.node (o_309 P) .nil .nil) (.node (o_441 P) .nil .nil)) (.node (o_241 P) (.node (o_375 P) .nil .nil) .nil)) (.node (o_141 P) (.node (o_207 P) (.node (o_341 P) .nil .nil) .nil) (.node (o_273 P) (.node (o_407 P) .nil .nil) .nil))) (.node (o_87 P) (.node (o_122 P) (.node (o_191 P) (.node (o_325 P) .nil .nil) (.node (o_457 P) .nil .nil)) (.node (o_257 P) (.node (o_391 P) .nil .nil) .nil)) (.node (o_157 P) (.node (o_225 P) (.node (o_359 P) .nil .nil) .nil) (.node (o_293 P) (.node (o_425 P) .nil .nil) .nil)))) (.node (o_60 P) (.node (o_76 P) (.node (o_111 P) (.node (o_183 P) (.node (o_317 P) .nil .nil) (.node (o_449 P) .nil .nil)) (.node (o_249 P) (.node (o_383 P) .nil .nil) .nil)) (.node (o_149 P) (.node (o_215 P) (.node (o_351 P) .nil .nil) .nil) (.node (o_281 P) (.node (o_417 P) .nil .nil) .nil))) (.node (o_95 P) (.node (o_133 P) (.node (o_199 P) (.node (o_333 P) .nil .nil) (.node (o_465 P) .nil .nil)) (.node (o_265 P) (.node (o_399 P) .nil .nil) .nil)) (.node (o_167 P) (.node (o_233 P) (.node (o_367 P) .nil .nil) .nil) (.node (o_301 P) (.node (o_433 P) .nil .nil) .nil))))) (.node (o_411 P) (.node (o_56 P) (.node (o_72 P) (.node (o_107 P) (.node (o_179 P) (.node (o_313 P) .nil .nil) (.node (o_445 P) .nil .nil)) (.node (o_245 P) (.node (o_379 P) .nil .nil) .nil)) (.node (o_145 P) (.node (o_211 P) (.node (o_345 P) .nil .nil) .nil) (.node (o_277 P) (.node (o_413 P) .nil .nil) .nil))) (.node (o_91 P) (.node (o_126 P) (.node (o_195 P) (.node (o_329 P) .nil .nil) (.node (o_461 P) .nil .nil)) (.node (o_261 P) (.node (o_395 P) .nil .nil) .nil)) (.node (o_161 P) (.node (o_229 P) (.node (o_363 P) .nil .nil) .nil) (.node (o_297 P) (.node (o_429 P) .nil .nil) .nil)))) (.node (o_64 P) (.node (o_80 P) (.node (o_118 P) (.node (o_187 P) (.node (o_321 P) .nil .nil) (.node (o_453 P) .nil .nil)) (.node (o_253 P) (.node (o_387 P) .nil .nil) .nil)) (.node (o_153 P) (.node (o_219 P) (.node (o_355 P) .nil .nil) .nil) (.node (o_285 P) (.node (o_421 P) .nil .nil) .nil))) (.node (o_99 P) (.node (o_137 P) (.node (o_203 P) (.node (o_337 P) .nil .nil) .nil) (.node (o_269 P) (.node (o_403 P) .nil .nil) .nil)) (.node (o_171 P) (.node (o_237 P) (.node (o_371 P) .nil .nil) .nil) (.node (o_305 P) (.node (o_437 P) .nil .nil) .nil)))))) (.node (boot_o_6 P) (.node (boot_o_10 P) (.node (o_54 P) (.node (o_70 P) (.node (o_105 P) (.node (o_177 P) (.node (o_311 P) .nil .nil) (.node (o_443 P) .nil .nil)) (.node (o_243 P) (.node (o_377 P) .nil .nil) .nil)) (.node (o_143 P) (.node (o_209 P) (.node (o_343 P) .nil .nil) .nil) (.node (o_275 P) (.node (o_409 P) .nil .nil) .nil))) (.node (o_89 P) (.node (o_124 P) (.node (o_193 P) (.node (o_327 P) .nil .nil) (.node (o_459 P) .nil .nil)) (.node (o_259 P) (.node (o_393 P) .nil .nil) .nil)) (.node (o_159 P) (.node (o_227 P) (.node (o_361 P) .nil .nil) .nil) (.node (o_295 P) (.node (o_427 P) .nil .nil) .nil)))) (.node (o_62 P) (.node (o_78 P) (.node (o_113 P) (.node (o_185 P) (.node (o_319 P) .nil .nil) (.node (o_451 P) .nil .nil)) (.node (o_251 P) (.node (o_385 P) .nil .nil) .nil)) (.node (o_151 P) (.node (o_217 P) (.node (o_353 P) .nil .nil) .nil) (.node (o_283 P) (.node (o_419 P) .nil .nil) .nil))) (.node (o_97 P) (.node (o_135 P) (.node (o_201 P) (.node (o_335 P) .nil .nil) (.node (o_467 P) .nil .nil)) (.node (o_267 P) (.node (o_401 P) .nil .nil) .nil)) (.node (o_169 P) (.node (o_235 P) (.node (o_369 P) .nil .nil) .nil) (.node (o_303 P) (.node (o_435 P) .nil .nil) .nil))))) (.node (o_46 P) (.node (o_58 P) (.node (o_74 P) (.node (o_109 P) (.node (o_181 P) (.node (o_315 P) .nil .nil) (.node (o_447 P) .nil .nil)) (.node (o_247 P) (.node (o_381 P) .nil .nil) .nil)) (.node (o_147 P) (.node (o_213 P) (.node (o_349 P) .nil .nil) .nil) (.node (o_279 P) (.node (o_415 P) .nil .nil) .nil))) (.node (o_93 P) (.node (o_128 P) (.node (o_197 P) (.node (o_331 P) .nil .nil) (.node (o_463 P) .nil .nil)) (.node (o_263 P) (.node (o_397 P) .nil .nil) .nil)) (.node (o_163 P) (.node (o_231 P) (.node (o_365 P) .nil .nil) .nil) (.node (o_299 P) (.node (o_431 P) .nil .nil) .nil)))) (.node (o_66 P) (.node (o_82 P) (.node (o_120 P) (.node (o_189 P) (.node (o_323 P) .nil .nil) (.node (o_455 P) .nil .nil)) (.node (o_255 P) (.node (o_389 P) .nil .nil) .nil)) (.node (o_155 P) (.node (o_223 P) (.node (o_357 P) .nil .nil) .nil) (.node (o_287 P) (.node (o_423 P) .nil .nil) .nil))) (.node (o_101 P) (.node (o_139 P) (.node (o_205 P) (.node (o_339 P) .nil .nil) .nil) (.node (o_271 P) (.node (o_405 P) .nil .nil) .nil)) (.node (o_173 P) (.node (o_239 P) (.node (o_373 P) .nil .nil) .nil) (.node (o_307 P) (.node (o_439 P) .nil .nil) .nil))))))))
noncomputable def tree_288 (P : Params) : BT := (.node (boot_o_0 P) (.node (boot_o_1 P) (.node (o_221 P) (.node (boot_o_7 P) (.node (o_51 P) (.node (o_67 P) (.node (o_102 P) (.node (o_174 P) .nil .nil) (.node (o_240 P) .nil .nil)) (.node (o_140 P) (.node (o_206 P) .nil .nil) (.node (o_272 P) .nil .nil))) (.node (o_86 P) (.node (o_121 P) (.node (o_190 P) .nil .nil) (.node (o_256 P) .nil .nil)) (.node (o_156 P) (.node (o_224 P) .nil .nil) (.node (o_288 P) .nil .nil)))) (.node (o_59 P) (.node (o_75 P) (.node (o_131 P) (.node (o_182 P) .nil .nil) (.node (o_248 P) .nil .nil)) (.node (o_148 P) (.node (o_214 P) .nil .nil) (.node (o_280 P) .nil .nil))) (.node (o_94 P) (.node (o_132 P) (.node (o_198 P) .nil .nil) (.node (o_264 P) .nil .nil)) (.node (o_164 P) (.node (o_232 P) .nil .nil) .nil)))) (.node (o_43 P) (.node (o_55 P) (.node (o_71 P) (.node (o_106 P) (.node (o_178 P) .nil .nil) (.node (o_244 P) .nil .nil)) (.node (o_144 P) (.node (o_210 P) .nil .nil) (.node (o_276 P) .nil .nil))) (.node (o_90 P) (.node (o_125 P) (.node (o_194 P) .nil .nil) (.node (o_260 P) .nil .nil)) (.node (o_160 P) (.node (o_228 P) .nil .nil) .nil))) (.node (o_63 P) (.node (o_79 P) (.node (o_117 P) (.node (o_186 P) .nil .nil) (.node (o_252 P) .nil .nil)) (.node (o_152 P) (.node (o_218 P) .nil .nil) (.node (o_284 P) .nil .nil))) (.node (o_98 P) (.node (o_136 P) (.node (o_202 P) .nil .nil) (.node (o_268 P) .nil .nil)) (.node (o_170 P) (.node (o_236 P) .nil .nil) .nil))))) (.node (boot_o_5 P) (.node (boot_o_9 P) (.node (o_53 P) (.node (o_69 P) (.node (o_104 P) (.node (o_176 P) .nil .nil) (.node (o_242 P) .nil .nil)) (.node (o_142 P) (.node (o_208 P) .nil .nil) (.node (o_274 P) .nil .nil))) (.node (o_88 P) (.node (o_123 P) (.node (o_192 P) .nil .nil) (.node (o_258 P) .nil .nil)) (.node (o_158 P) (.node (o_226 P) .nil .nil) .nil))) (.node (o_61 P) (.node (o_77 P) (.node (o_112 P) (.node (o_184 P) .nil .nil) (.node (o_250 P) .nil .nil)) (.node (o_150 P) (.node (o_216 P) .nil .nil) (.node (o_282 P) .nil .nil))) (.node (o_96 P) (.node (o_134 P) (.node (o_200 P) .nil .nil) (.node (o_266 P) .nil .nil)) (.node (o_168 P) (.node (o_234 P) .nil .nil) .nil)))) (.node (o_45 P) (.node (o_57 P) (.node (o_73 P) (.node (o_108 P) (.node (o_180 P) .nil .nil) (.node (o_246 P) .nil .nil)) (.node (o_146 P) (.node (o_212 P) .nil .nil) (.node (o_278 P) .nil .nil))) (.node (o_92 P) (.node (o_127 P) (.node (o_196 P) .nil .nil) (.node (o_262 P) .nil .nil)) (.node (o_162 P) (.node (o_230 P) .nil .nil) .nil))) (.node (o_65 P) (.node (o_81 P) (.node (o_119 P) (.node (o_188 P) .nil .nil) (.node (o_254 P) .nil .nil)) (.node (o_154 P) (.node (o_220 P) .nil .nil) (.node (o_286 P) .nil .nil))) (.node (o_100 P) (.node (o_138 P) (.node (o_204 P) .nil .nil) (.node (o_270 P) .nil .nil)) (.node (o_172 P) (.node (o_238 P) .nil .nil) .nil)))))) (.node (o_83 P) (.node (boot_o_4 P) (.node (boot_o_8 P) (.node (o_52 P) (.node (o_68 P) (.node (o_103 P) (.node (o_175 P) .nil .nil) (.node (o_241 P) .nil .nil)) (.node (o_141 P) (.node (o_207 P) .nil .nil) (.node (o_273 P) .nil .nil))) (.node (o_87 P) (.node (o_122 P) (.node (o_191 P) .nil .nil) (.node (o_257 P) .nil .nil)) (.node (o_157 P) (.node (o_225 P) .nil .nil) .nil))) (.node (o_60 P) (.node (o_76 P) (.node (o_111 P) (.node (o_183 P) .nil .nil) (.node (o_249 P) .nil .nil)) (.node (o_149 P) (.node (o_215 P) .nil .nil) (.node (o_281 P) .nil .nil))) (.node (o_95 P) (.node (o_133 P) (.node (o_199 P) .nil .nil) (.node (o_265 P) .nil .nil)) (.node (o_167 P) (.node (o_233 P) .nil .nil) .nil)))) (.node (o_222 P) (.node (o_56 P) (.node (o_72 P) (.node (o_107 P) (.node (o_179 P) .nil .nil) (.node (o_245 P) .nil .nil)) (.node (o_145 P) (.node (o_211 P) .nil .nil) (.node (o_277 P) .nil .nil))) (.node (o_91 P) (.node (o_126 P) (.node (o_195 P) .nil .nil) (.node (o_261 P) .nil .nil)) (.node (o_161 P) (.node (o_229 P) .nil .nil) .nil))) (.node (o_64 P) (.node (o_80 P) (.node (o_118 P) (.node (o_187 P) .nil .nil) (.node (o_253 P) .nil .nil)) (.node (o_153 P) (.node (o_219 P) .nil .nil) (.node (o_285 P) .nil .nil))) (.node (o_99 P) (.node (o_137 P) (.node (o_203 P) .nil .nil) (.node (o_269 P) .nil .nil)) (.node (o_171 P) (.node (o_237 P) .nil .nil) .nil))))) (.node (boot_o_6 P) (.node (boot_o_10 P) (.node (o_54 P) (.node (o_70 P) (.node (o_105 P) (.node (o_177 P) .nil .nil) (.node (o_243 P) .nil .nil)) (.node (o_143 P) (.node (o_209 P) .nil .nil) (.node (o_275 P) .nil .nil))) (.node (o_89 P) (.node (o_124 P) (.node (o_193 P) .nil .nil) (.node (o_259 P) .nil .nil)) (.node (o_159 P) (.node (o_227 P) .nil .nil) .nil))) (.node (o_62 P) (.node (o_78 P) (.node (o_113 P) (.node (o_185 P) .nil .nil) (.node (o_251 P) .nil .nil)) (.node (o_151 P) (.node (o_217 P) .nil .nil) (.node (o_283 P) .nil .nil))) (.node (o_97 P) (.node (o_135 P) (.node (o_201 P) .nil .nil) (.node (o_267 P) .nil .nil)) (.node (o_169 P) (.node (o_235 P) .nil .nil) .nil)))) (.node (o_46 P) (.node (o_58 P) (.node (o_74 P) (.node (o_109 P) (.node (o_181 P) .nil .nil) (.node (o_247 P) .nil .nil)) (.node (o_147 P) (.node (o_213 P) .nil .nil) (.node (o_279 P) .nil .nil))) (.node (o_93 P) (.node (o_128 P) (.node (o_197 P) .nil .nil) (.node (o_263 P) .nil .nil)) (.node (o_163 P) (.node (o_231 P) .nil .nil) .nil))) (.node (o_66 P) (.node (o_82 P) (.node (o_120 P) (.node (o_189 P) .nil .nil) (.node (o_255 P) .nil .nil)) (.node (o_155 P) (.node (o_223 P) .nil .nil) (.node (o_287 P) .nil .nil))) (.node (o_101 P) (.node (o_139 P) (.node (o_205 P) .nil .nil) (.node (o_271 P) .nil .nil)) (.node (o_173 P) (.node (o_239 P) .nil .nil) .nil)))))))
noncomputable def tree_671 (P : Params) : BT := (.node (boot_o_0 P) (.node (boot_o_1 P) (.node (o_600 P) (.node (boot_o_7 P) (.node (o_51 P) (.node (o_67 P) (.node (o_102 P) (.node (o_174 P) (.node (o_308 P) (.node (o_574 P) .nil .nil) .nil) (.node (o_440 P) .nil .nil)) (.node (o_240 P) (.node (o_374 P) (.node (o_640 P) .nil .nil) .nil) (.node (o_506 P) .nil .nil))) (.node (o_140 P) (.node (o_206 P) (.node (o_340 P) (.node (o_608 P) .nil .nil) .nil) (.node (o_474 P) .nil .nil)) (.node (o_272 P) (.node (o_406 P) .nil .nil) (.node (o_540 P) .nil .nil)))) (.node (o_86 P) (.node (o_121 P) (.node (o_190 P) (.node (o_324 P) (.node (o_590 P) .nil .nil) .nil) (.node (o_456 P) .nil .nil)) (.node (o_256 P) (.node (o_390 P) (.node (o_656 P) .nil .nil) .nil) (.node (o_524 P) .nil .nil))) (.node (o_156 P) (.node (o_224 P) (.node (o_358 P) (.node (o_624 P) .nil .nil) .nil) (.node (o_490 P) .nil .nil)) (.node (o_288 P) (.node (o_424 P) .nil .nil) (.node (o_558 P) .nil .nil))))) (.node (o_59 P) (.node (o_75 P) (.node (o_131 P) (.node (o_182 P) (.node (o_316 P) (.node (o_582 P) .nil .nil) .nil) (.node (o_448 P) .nil .nil)) (.node (o_248 P) (.node (o_382 P) (.node (o_648 P) .nil .nil) .nil) (.node (o_516 P) .nil .nil))) (.node (o_148 P) (.node (o_214 P) (.node (o_350 P) (.node (o_616 P) .nil .nil) .nil) (.node (o_482 P) .nil .nil)) (.node (o_280 P) (.node (o_416 P) .nil .nil) (.node (o_550 P) .nil .nil)))) (.node (o_94 P) (.node (o_132 P) (.node (o_198 P) (.node (o_332 P) (.node (o_598 P) .nil .nil) .nil) (.node (o_464 P) .nil .nil)) (.node (o_264 P) (.node (o_398 P) (.node (o_664 P) .nil .nil) .nil) (.node (o_532 P) .nil .nil))) (.node (o_164 P) (.node (o_232 P) (.node (o_366 P) (.node (o_632 P) .nil .nil) .nil) (.node (o_498 P) .nil .nil)) (.node (o_300 P) (.node (o_432 P) .nil .nil) (.node (o_566 P) .nil .nil)))))) (.node (o_43 P) (.node (o_55 P) (.node (o_71 P) (.node (o_106 P) (.node (o_178 P) (.node (o_312 P) (.node (o_578 P) .nil .nil) .nil) (.node (o_444 P) .nil .nil)) (.node (o_244 P) (.node (o_378 P) (.node (o_644 P) .nil .nil) .nil) (.node (o_512 P) .nil .nil))) (.node (o_144 P) (.node (o_210 P) (.node (o_344 P) (.node (o_612 P) .nil .nil) .nil) (.node (o_478 P) .nil .nil)) (.node (o_276 P) (.node (o_412 P) .nil .nil) (.node (o_546 P) .nil .nil)))) (.node (o_90 P) (.node (o_125 P) (.node (o_194 P) (.node (o_328 P) (.node (o_594 P) .nil .nil) .nil) (.node (o_460 P) .nil .nil)) (.node (o_260 P) (.node (o_394 P) (.node (o_660 P) .nil .nil) .nil) (.node (o_528 P) .nil .nil))) (.node (o_160 P) (.node (o_228 P) (.node (o_362 P) (.node (o_628 P) .nil .nil) .nil) (.node (o_494 P) .nil .nil)) (.node (o_296 P) (.node (o_428 P) .nil .nil) (.node (o_562 P) .nil .nil))))) (.node (o_63 P) (.node (o_79 P) (.node (o_117 P) (.node (o_186 P) (.node (o_320 P) (.node (o_586 P) .nil .nil) .nil) (.node (o_452 P) .nil .nil)) (.node (o_252 P) (.node (o_386 P) (.node (o_652 P) .nil .nil) .nil) (.node (o_520 P) .nil .nil))) (.node (o_152 P) (.node (o_218 P) (.node (o_354 P) (.node (o_620 P) .nil .nil) .nil) (.node (o_486 P) .nil .nil)) (.node (o_284 P) (.node (o_420 P) .nil .nil) (.node (o_554 P) .nil .nil)))) (.node (o_98 P) (.node (o_136 P) (.node (o_202 P) (.node (o_336 P) (.node (o_604 P) .nil .nil) .nil) (.node (o_470 P) .nil .nil)) (.node (o_268 P) (.node (o_402 P) (.node (o_668 P) .nil .nil) .nil) (.node (o_536 P) .nil .nil))) (.node (o_170 P) (.node (o_236 P) (.node (o_370 P) (.node (o_636 P) .nil .nil) .nil) (.node (o_502 P) .nil .nil)) (.node (o_304 P) (.node (o_436 P) .nil .nil) (.node (o_570 P) .nil .nil))))))) (.node (boot_o_5 P) (.node (boot_o_9 P) (.node (o_53 P) (.node (o_69 P) (.node (o_104 P) (.node (o_176 P) (.node (o_310 P) (.node (o_576 P) .nil .nil) .nil) (.node (o_442 P) .nil .nil)) (.node (o_242 P) (.node (o_376 P) (.node (o_642 P) .nil .nil) .nil) (.node (o_510 P) .nil .nil))) (.node (o_142 P) (.node (o_208 P) (.node (o_342 P) (.node (o_610 P) .nil .nil) .nil) (.node (o_476 P) .nil .nil)) (.node (o_274 P) (.node (o_408 P) .nil .nil) (.node (o_544 P) .nil .nil)))) (.node (o_88 P) (.node (o_123 P) (.node (o_192 P) (.node (o_326 P) (.node (o_592 P) .nil .nil) .nil) (.node (o_458 P) .nil .nil)) (.node (o_258 P) (.node (o_392 P) (.node (o_658 P) .nil .nil) .nil) (.node (o_526 P) .nil .nil))) (.node (o_158 P) (.node (o_226 P) (.node (o_360 P) (.node (o_626 P) .nil .nil) .nil) (.node (o_492 P) .nil .nil)) (.node (o_294 P) (.node (o_426 P) .nil .nil) (.node (o_560 P) .nil .nil))))) (.node (o_61 P) (.node (o_77 P) (.node (o_112 P) (.node (o_184 P) (.node (o_318 P) (.node (o_584 P) .nil .nil) .nil) (.node (o_450 P) .nil .nil)) (.node (o_250 P) (.node (o_384 P) (.node (o_650 P) .nil .nil) .nil) (.node (o_518 P) .nil .nil))) (.node (o_150 P) (.node (o_216 P) (.node (o_352 P) (.node (o_618 P) .nil .nil) .nil) (.node (o_484 P) .nil .nil)) (.node (o_282 P) (.node (o_418 P) .nil .nil) (.node (o_552 P) .nil .nil)))) (.node (o_96 P) (.node (o_134 P) (.node (o_200 P) (.node (o_334 P) (.node (o_602 P) .nil .nil) .nil) (.node (o_466 P) .nil .nil)) (.node (o_266 P) (.node (o_400 P) (.node (o_666 P) .nil .nil) .nil) (.node (o_534 P) .nil .nil))) (.node (o_168 P) (.node (o_234 P) (.node (o_368 P) (.node (o_634 P) .nil .nil) .nil) (.node (o_500 P) .nil .nil)) (.node (o_302 P) (.node (o_434 P) .nil .nil) (.node (o_568 P) .nil .nil)))))) (.node (o_45 P) (.node (o_57 P) (.node (o_73 P) (.node (o_108 P) (.node (o_180 P) (.node (o_314 P) (.node (o_580 P) .nil .nil) .nil) (.node (o_446 P) .nil .nil)) (.node (o_246 P) (.node (o_380 P) (.node (o_646 P) .nil .nil) .nil) (.node (o_514 P) .nil .nil))) (.node (o_146 P) (.node (o_212 P) (.node (o_346 P) (.node (o_614 P) .nil .nil) .nil) (.node (o_480 P) .nil .nil)) (.node (o_278 P) (.node (o_414 P) .nil .nil) (.node (o_548 P) .nil .nil)))) (.node (o_92 P) (.node (o_127 P) (.node (o_196 P) (.node (o_330 P) (.node (o_596 P) .nil .nil) .nil) (.node (o_462 P) .nil .nil)) (.node (o_262 P) (.node (o_396 P) (.node (o_662 P) .nil .nil) .nil) (.node (o_530 P) .nil .nil))) (.node (o_162 P) (.node (o_230 P) (.node (o_364 P) (.node (o_630 P) .nil .nil) .nil) (.node (o_496 P) .nil .nil)) (.node (o_298 P) (.node (o_430 P) .nil .nil) (.node (o_564 P) .nil .nil))))) (.node (o_65 P) (.node (o_81 P) (.node (o_119 P) (.node (o_188 P) (.node (o_322 P) (.node (o_588 P) .nil .nil) .nil) (.node (o_454 P) .nil .nil)) (.node (o_254 P) (.node (o_388 P) (.node (o_654 P) .nil .nil) .nil) (.node (o_522 P) .nil .nil))) (.node (o_154 P) (.node (o_220 P) (.node (o_356 P) (.node (o_622 P) .nil .nil) .nil) (.node (o_488 P) .nil .nil)) (.node (o_286 P) (.node (o_422 P) .nil .nil) (.node (o_556 P) .nil .nil)))) (.node (o_100 P) (.node (o_138 P) (.node (o_204 P) (.node (o_338 P) (.node (o_606 P) .nil .nil) .nil) (.node (o_472 P) .nil .nil)) (.node (o_270 P) (.node (o_404 P) (.node (o_670 P) .nil .nil) .nil) (.node (o_538 P) .nil .nil))) (.node (o_172 P) (.node (o_238 P) (.node (o_372 P) (.node (o_638 P) .nil .nil) .nil) (.node (o_504 P) .nil .nil)) (.node (o_306 P) (.node (o_438 P) .nil .nil) (.node (o_572 P) .nil .nil)))))))) (.node (o_83 P) (.node (boot_o_4 P) (.node (boot_o_8 P) (.node (o_52 P) (.node (o_68 P) (.node (o_103 P) (.node (o_175 P) (.node (o_309 P) (.node (o_575 P) .nil .nil) .nil) (.node (o_441 P) .nil .nil)) (.node (o_241 P) (.node (o_375 P) (.node (o_641 P) .nil .nil) .nil) (.node (o_509 P) .nil .nil))) (.node (o_141 P) (.node (o_207 P) (.node (o_341 P) (.node (o_609 P) .nil .nil) .nil) (.node (o_475 P) .nil .nil)) (.node (o_273 P) (.node (o_407 P) .nil .nil) (.node (o_541 P) .nil .nil)))) (.node (o_87 P) (.node (o_122 P) (.node (o_191 P) (.node (o_325 P) (.node (o_591 P) .nil .nil) .nil) (.node (o_457 P) .nil .nil)) (.node (o_257 P) (.node (o_391 P) (.node (o_657 P) .nil .nil) .nil) (.node (o_525 P) .nil .nil))) (.node (o_157 P) (.node (o_225 P) (.node (o_359 P) (.node (o_625 P) .nil .nil) .nil) (.node (o_491 P) .nil .nil)) (.node (o_293 P) (.node (o_425 P) .nil .nil) (.node (o_559 P) .nil .nil))))) (.node (o_60 P) (.node (o_76 P) (.node (o_111 P) (.node (o_183 P) (.node (o_317 P) (.node (o_583 P) .nil .nil) .nil) (.node (o_449 P) .nil .nil)) (.node (o_249 P) (.node (o_383 P) (.node (o_649 P) .nil .nil) .nil) (.node (o_517 P) .nil .nil))) (.node (o_149 P) (.node (o_215 P) (.node (o_351 P) (.node (o_617 P) .nil .nil) .nil) (.node (o_483 P) .nil .nil)) (.node (o_281 P) (.node (o_417 P) .nil .nil) (.node (o_551 P) .nil .nil)))) (.node (o_95 P) (.node (o_133 P) (.node (o_199 P) (.node (o_333 P) (.node (o_599 P) .nil .nil) .nil) (.node (o_465 P) .nil .nil)) (.node (o_265 P) (.node (o_399 P) (.node (o_665 P) .nil .nil) .nil) (.node (o_533 P) .nil .nil))) (.node (o_167 P) (.node (o_233 P) (.node (o_367 P) (.node (o_633 P) .nil .nil) .nil) (.node (o_499 P) .nil .nil)) (.node (o_301 P) (.node (o_433 P) .nil .nil) (.node (o_567 P) .nil .nil)))))) (.node (o_601 P) (.node (o_56 P) (.node (o_72 P) (.node (o_107 P) (.node (o_179 P) (.node (o_313 P) (.node (o_579 P) .nil .nil) .nil) (.node (o_445 P) .nil .nil)) (.node (o_245 P) (.node (o_379 P) (.node (o_645 P) .nil .nil) .nil) (.node (o_513 P) .nil .nil))) (.node (o_145 P) (.node (o_211 P) (.node (o_345 P) (.node (o_613 P) .nil .nil) .nil) (.node (o_479 P) .nil .nil)) (.node (o_277 P) (.node (o_413 P) .nil .nil) (.node (o_547 P) .nil .nil)))) (.node (o_91 P) (.node (o_126 P) (.node (o_195 P) (.node (o_329 P) (.node (o_595 P) .nil .nil) .nil) (.node (o_461 P) .nil .nil)) (.node (o_261 P) (.node (o_395 P) (.node (o_661 P) .nil .nil) .nil) (.node (o_529 P) .nil .nil))) (.node (o_161 P) (.node (o_229 P) (.node (o_363 P) (.node (o_629 P) .nil .nil) .nil) (.node (o_495 P) .nil .nil)) (.node (o_297 P) (.node (o_429 P) .nil .nil) (.node (o_563 P) .nil .nil))))) (.node (o_64 P) (.node (o_80 P) (.node (o_118 P) (.node (o_187 P) (.node (o_321 P) (.node (o_587 P) .nil .nil) .nil) (.node (o_453 P) .nil .nil)) (.node (o_253 P) (.node (o_387 P) (.node (o_653 P) .nil .nil) .nil) (.node (o_521 P) .nil .nil))) (.node (o_153 P) (.node (o_219 P) (.node (o_355 P) (.node (o_621 P) .nil .nil) .nil) (.node (o_487 P) .nil .nil)) (.node (o_285 P) (.node (o_421 P) .nil .nil) (.node (o_555 P) .nil .nil)))) (.node (o_99 P) (.node (o_137 P) (.node (o_203 P) (.node (o_337 P) (.node (o_605 P) .nil .nil) .nil) (.node (o_471 P) .nil .nil)) (.node (o_269 P) (.node (o_403 P) (.node (o_669 P) .nil .nil) .nil) (.node (o_537 P) .nil .nil))) (.node (o_171 P) (.node (o_237 P) (.node (o_371 P) (.node (o_637 P) .nil .nil) .nil) (.node (o_503 P) .nil .nil)) (.node (o_305 P) (.node (o_437 P) .nil .nil) (.node (o_571 P) .nil .nil))))))) (.node (boot_o_6 P) (.node (boot_o_10 P) (.node (o_54 P) (.node (o_70 P) (.node (o_105 P) (.node (o_177 P) (.node (o_311 P) (.node (o_577 P) .nil .nil) .nil) (.node (o_443 P) .nil .nil)) (.node (o_243 P) (.node (o_377 P) (.node (o_643 P) .nil .nil) .nil) (.node (o_511 P) .nil .nil))) (.node (o_143 P) (.node (o_209 P) (.node (o_343 P) (.node (o_611 P) .nil .nil) .nil) (.node (o_477 P) .nil .nil)) (.node (o_275 P) (.node (o_409 P) .nil .nil) (.node (o_545 P) .nil .nil)))) (.node (o_89 P) (.node (o_124 P) (.node (o_193 P) (.node (o_327 P) (.node (o_593 P) .nil .nil) .nil) (.node (o_459 P) .nil .nil)) (.node (o_259 P) (.node (o_393 P) (.node (o_659 P) .nil .nil) .nil) (.node (o_527 P) .nil .nil))) (.node (o_159 P) (.node (o_227 P) (.node (o_361 P) (.node (o_627 P) .nil .nil) .nil) (.node (o_493 P) .nil .nil)) (.node (o_295 P) (.node (o_427 P) .nil .nil) (.node (o_561 P) .nil .nil))))) (.node (o_62 P) (.node (o_78 P) (.node (o_113 P) (.node (o_185 P) (.node (o_319 P) (.node (o_585 P) .nil .nil) .nil) (.node (o_451 P) .nil .nil)) (.node (o_251 P) (.node (o_385 P) (.node (o_651 P) .nil .nil) .nil) (.node (o_519 P) .nil .nil))) (.node (o_151 P) (.node (o_217 P) (.node (o_353 P) (.node (o_619 P) .nil .nil) .nil) (.node (o_485 P) .nil .nil)) (.node (o_283 P) (.node (o_419 P) .nil .nil) (.node (o_553 P) .nil .nil)))) (.node (o_97 P) (.node (o_135 P) (.node (o_201 P) (.node (o_335 P) (.node (o_603 P) .nil .nil) .nil) (.node (o_467 P) .nil .nil)) (.node (o_267 P) (.node (o_401 P) (.node (o_667 P) .nil .nil) .nil) (.node (o_535 P) .nil .nil))) (.node (o_169 P) (.node (o_235 P) (.node (o_369 P) (.node (o_635 P) .nil .nil) .nil) (.node (o_501 P) .nil .nil)) (.node (o_303 P) (.node (o_435 P) .nil .nil) (.node (o_569 P) .nil .nil)))))) (.node (o_46 P) (.node (o_58 P) (.node (o_74 P) (.node (o_109 P) (.node (o_181 P) (.node (o_315 P) (.node (o_581 P) .nil .nil) .nil) (.node (o_447 P) .nil .nil)) (.node (o_247 P) (.node (o_381 P) (.node (o_647 P) .nil .nil) .nil) (.node (o_515 P) .nil .nil))) (.node (o_147 P) (.node (o_213 P) (.node (o_349 P) (.node (o_615 P) .nil .nil) .nil) (.node (o_481 P) .nil .nil)) (.node (o_279 P) (.node (o_415 P) .nil .nil) (.node (o_549 P) .nil .nil)))) (.node (o_93 P) (.node (o_128 P) (.node (o_197 P) (.node (o_331 P) (.node (o_597 P) .nil .nil) .nil) (.node (o_463 P) .nil .nil)) (.node (o_263 P) (.node (o_397 P) (.node (o_663 P) .nil .nil) .nil) (.node (o_531 P) .nil .nil))) (.node (o_163 P) (.node (o_231 P) (.node (o_365 P) (.node (o_631 P) .nil .nil) .nil) (.node (o_497 P) .nil .nil)) (.node (o_299 P) (.node (o_431 P) .nil .nil) (.node (o_565 P) .nil .nil))))) (.node (o_66 P) (.node (o_82 P) (.node (o_120 P) (.node (o_189 P) (.node (o_323 P) (.node (o_589 P) .nil .nil) .nil) (.node (o_455 P) .nil .nil)) (.node (o_255 P) (.node (o_389 P) (.node (o_655 P) .nil .nil) .nil) (.node (o_523 P) .nil .nil))) (.node (o_155 P) (.node (o_223 P) (.node (o_357 P) (.node (o_623 P) .nil .nil) .nil) (.node (o_489 P) .nil .nil)) (.node (o_287 P) (.node (o_423 P) .nil .nil) (.node (o_557 P) .nil .nil)))) (.node (o_101 P) (.node (o_139 P) (.node (o_205 P) (.node (o_339 P) (.node (o_607 P) .nil .nil) .nil) (.node (o_473 P) .nil .nil)) (.node (o_271 P) (.node (o_405 P) (.node (o_671 P) .nil .nil) .nil) (.node (o_539 P) .nil .nil))) (.node (o_173 P) (.node (o_239 P) (.node (o_373 P) (.node (o_639 P) .nil .nil) .nil) (.node (o_505 P) .nil .nil)) (.node (o_307 P) (.node (o_439 P) .nil .nil) (.node (o_573 P) .nil .nil)))))))))
noncomputable def tree_82 (P : Params) : BT := (.node (boot_o_0 P) (.node (boot_o_1 P) (.node (o_49 P) (.node (boot_o_7 P) (.node (o_51 P) (.node (o_67 P) .nil .nil) .nil) (.node (o_59 P) (.node (o_75 P) .nil .nil) .nil)) (.node (o_43 P) (.node (o_55 P) (.node (o_71 P) .nil .nil) .nil) (.node (o_63 P) (.node (o_79 P) .nil .nil) .nil))) (.node (boot_o_5 P) (.node (boot_o_9 P) (.node (o_53 P) (.node (o_69 P) .nil .nil) .nil) (.node (o_61 P) (.node (o_77 P) .nil .nil) .nil)) (.node (o_45 P) (.node (o_57 P) (.node (o_73 P) .nil .nil) .nil) (.node (o_65 P) (.node (o_81 P) .nil .nil) .nil)))) (.node (boot_o_2 P) (.node (boot_o_4 P) (.node (boot_o_8 P) (.node (o_52 P) (.node (o_68 P) .nil .nil) .nil) (.node (o_60 P) (.node (o_76 P) .nil .nil) .nil)) (.node (o_50 P) (.node (o_56 P) (.node (o_72 P) .nil .nil) .nil) (.node (o_64 P) (.node (o_80 P) .nil .nil) .nil))) (.node (boot_o_6 P) (.node (boot_o_10 P) (.node (o_54 P) (.node (o_70 P) .nil .nil) .nil) (.node (o_62 P) (.node (o_78 P) .nil .nil) .nil)) (.node (o_46 P) (.node (o_58 P) (.node (o_74 P) .nil .nil) .nil) (.node (o_66 P) (.node (o_82 P) .nil .nil) .nil)))))
noncomputable def tree_506 (P : Params) : BT := (.node (boot_o_0 P) (.node (boot_o_1 P) (.node (o_468 P) (.node (boot_o_7 P) (.node (o_51 P) (.node (o_67 P) (.node (o_102 P) (.node (o_174 P) (.node (o_308 P) .nil .nil) (.node (o_440 P) .nil .nil)) (.node (o_240 P) (.node (o_374 P) .nil .nil) (.node (o_506 P) .nil .nil))) (.node (o_140 P) (.node (o_206 P) (.node (o_340 P) .nil .nil) (.node (o_474 P) .nil .nil)) (.node (o_272 P) (.node (o_406 P) .nil .nil) .nil))) (.node (o_86 P) (.node (o_121 P) (.node (o_190 P) (.node (o_324 P) .nil .nil) (.node (o_456 P) .nil .nil)) (.node (o_256 P) (.node (o_390 P) .nil .nil) .nil)) (.node (o_156 P) (.node (o_224 P) (.node (o_358 P) .nil .nil) (.node (o_490 P) .nil .nil)) (.node (o_288 P) (.node (o_424 P) .nil .nil) .nil)))) (.node (o_59 P) (.node (o_75 P) (.node (o_131 P) (.node (o_182 P) (.node (o_316 P) .nil .nil) (.node (o_448 P) .nil .nil)) (.node (o_248 P) (.node (o_382 P) .nil .nil) .nil)) (.node (o_148 P) (.node (o_214 P) (.node (o_350 P) .nil .nil) (.node (o_482 P) .nil .nil)) (.node (o_280 P) (.node (o_416 P) .nil .nil) .nil))) (.node (o_94 P) (.node (o_132 P) (.node (o_198 P) (.node (o_332 P) .nil .nil) (.node (o_464 P) .nil .nil)) (.node (o_264 P) (.node (o_398 P) .nil .nil) .nil)) (.node (o_164 P) (.node (o_232 P) (.node (o_366 P) .nil .nil) (.node (o_498 P) .nil .nil)) (.node (o_300 P) (.node (o_432 P) .nil .nil) .nil))))) (.node (o_43 P) (.node (o_55 P) (.node (o_71 P) (.node (o_106 P) (.node (o_178 P) (.node (o_312 P) .nil .nil) (.node (o_444 P) .nil .nil)) (.node (o_244 P) (.node (o_378 P) .nil .nil) .nil)) (.node (o_144 P) (.node (o_210 P) (.node (o_344 P) .nil .nil) (.node (o_478 P) .nil .nil)) (.node (o_276 P) (.node (o_412 P) .nil .nil) .nil))) (.node (o_90 P) (.node (o_125 P) (.node (o_194 P) (.node (o_328 P) .nil .nil) (.node (o_460 P) .nil .nil)) (.node (o_260 P) (.node (o_394 P) .nil .nil) .nil)) (.node (o_160 P) (.node (o_228 P) (.node (o_362 P) .nil .nil) (.node (o_494 P) .nil .nil)) (.node (o_296 P) (.node (o_428 P) .nil .nil) .nil)))) (.node (o_63 P) (.node (o_79 P) (.node (o_117 P) (.node (o_186 P) (.node (o_320 P) .nil .nil) (.node (o_452 P) .nil .nil)) (.node (o_252 P) (.node (o_386 P) .nil .nil) .nil)) (.node (o_152 P) (.node (o_218 P) (.node (o_354 P) .nil .nil) (.node (o_486 P) .nil .nil)) (.node (o_284 P) (.node (o_420 P) .nil .nil) .nil))) (.node (o_98 P) (.node (o_136 P) (.node (o_202 P) (.node (o_336 P) .nil .nil) (.node (o_470 P) .nil .nil)) (.node (o_268 P) (.node (o_402 P) .nil .nil) .nil)) (.node (o_170 P) (.node (o_236 P) (.node (o_370 P) .nil .nil) (.node (o_502 P) .nil .nil)) (.node (o_304 P) (.node (o_436 P) .nil .nil) .nil)))))) (.node (boot_o_5 P) (.node (boot_o_9 P) (.node (o_53 P) (.node (o_69 P) (.node (o_104 P) (.node (o_176 P) (.node (o_310 P) .nil .nil) (.node (o_442 P) .nil .nil)) (.node (o_242 P) (.node (o_376 P) .nil .nil) .nil)) (.node (o_142 P) (.node (o_208 P) (.node (o_342 P) .nil .nil) (.node (o_476 P) .nil .nil)) (.node (o_274 P) (.node (o_408 P) .nil .nil) .nil))) (.node (o_88 P) (.node (o_123 P) (.node (o_192 P) (.node (o_326 P) .nil .nil) (.node (o_458 P) .nil .nil)) (.node (o_258 P) (.node (o_392 P) .nil .nil) .nil)) (.node (o_158 P) (.node (o_226 P) (.node (o_360 P) .nil .nil) (.node (o_492 P) .nil .nil)) (.node (o_294 P) (.node (o_426 P) .nil .nil) .nil)))) (.node (o_61 P) (.node (o_77 P) (.node (o_112 P) (.node (o_184 P) (.node (o_318 P) .nil .nil) (.node (o_450 P) .nil .nil)) (.node (o_250 P) (.node (o_384 P) .nil .nil) .nil)) (.node (o_150 P) (.node (o_216 P) (.node (o_352 P) .nil .nil) (.node (o_484 P) .nil .nil)) (.node (o_282 P) (.node (o_418 P) .nil .nil) .nil))) (.node (o_96 P) (.node (o_134 P) (.node (o_200 P) (.node (o_334 P) .nil .nil) (.node (o_466 P) .nil .nil)) (.node (o_266 P) (.node (o_400 P) .nil .nil) .nil)) (.node (o_168 P) (.node (o_234 P) (.node (o_368 P) .nil .nil) (.node (o_500 P) .nil .nil)) (.node (o_302 P) (.node (o_434 P) .nil .nil) .nil))))) (.node (o_45 P) (.node (o_57 P) (.node (o_73 P) (.node (o_108 P) (.node (o_180 P) (.node (o_314 P) .nil .nil) (.node (o_446 P) .nil .nil)) (.node (o_246 P) (.node (o_380 P) .nil .nil) .nil)) (.node (o_146 P) (.node (o_212 P) (.node (o_346 P) .nil .nil) (.node (o_480 P) .nil .nil)) (.node (o_278 P) (.node (o_414 P) .nil .nil) .nil))) (.node (o_92 P) (.node (o_127 P) (.node (o_196 P) (.node (o_330 P) .nil .nil) (.node (o_462 P) .nil .nil)) (.node (o_262 P) (.node (o_396 P) .nil .nil) .nil)) (.node (o_162 P) (.node (o_230 P) (.node (o_364 P) .nil .nil) (.node (o_496 P) .nil .nil)) (.node (o_298 P) (.node (o_430 P) .nil .nil) .nil)))) (.node (o_65 P) (.node (o_81 P) (.node (o_119 P) (.node (o_188 P) (.node (o_322 P) .nil .nil) (.node (o_454 P) .nil .nil)) (.node (o_254 P) (.node (o_388 P) .nil .nil) .nil)) (.node (o_154 P) (.node (o_220 P) (.node (o_356 P) .nil .nil) (.node (o_488 P) .nil .nil)) (.node (o_286 P) (.node (o_422 P) .nil .nil) .nil))) (.node (o_100 P) (.node (o_138 P) (.node (o_204 P) (.node (o_338 P) .nil .nil) (.node (o_472 P) .nil .nil)) (.node (o_270 P) (.node (o_404 P) .nil .nil) .nil)) (.node (o_172 P) (.node (o_238 P) (.node (o_372 P) .nil .nil) (.node (o_504 P) .nil .nil)) (.node (o_306 P) (.node (o_438 P) .nil .nil) .nil))))))) (.node (o_83 P) (.node (boot_o_4 P) (.node (boot_o_8 P) (.node (o_52 P) (.node (o_68 P) (.node (o_103 P) (.node (o_175 P) (.node (o_309 P) .nil .nil) (.node (o_441 P) .nil .nil)) (.node (o_241 P) (.node (o_375 P) .nil .nil) .nil)) (.node (o_141 P) (.node (o_207 P) (.node (o_341 P) .nil .nil) (.node (o_475 P) .nil .nil)) (.node (o_273 P) (.node (o_407 P) .nil .nil) .nil))) (.node (o_87 P) (.node (o_122 P) (.node (o_191 P) (.node (o_325 P) .nil .nil) (.node (o_457 P) .nil .nil)) (.node (o_257 P) (.node (o_391 P) .nil .nil) .nil)) (.node (o_157 P) (.node (o_225 P) (.node (o_359 P) .nil .nil) (.node (o_491 P) .nil .nil)) (.node (o_293 P) (.node (o_425 P) .nil .nil) .nil)))) (.node (o_60 P) (.node (o_76 P) (.node (o_111 P) (.node (o_183 P) (.node (o_317 P) .nil .nil) (.node (o_449 P) .nil .nil)) (.node (o_249 P) (.node (o_383 P) .nil .nil) .nil)) (.node (o_149 P) (.node (o_215 P) (.node (o_351 P) .nil .nil) (.node (o_483 P) .nil .nil)) (.node (o_281 P) (.node (o_417 P) .nil .nil) .nil))) (.node (o_95 P) (.node (o_133 P) (.node (o_199 P) (.node (o_333 P) .nil .nil) (.node (o_465 P) .nil .nil)) (.node (o_265 P) (.node (o_399 P) .nil .nil) .nil)) (.node (o_167 P) (.node (o_233 P) (.node (o_367 P) .nil .nil) (.node (o_499 P) .nil .nil)) (.node (o_301 P) (.node (o_433 P) .nil .nil) .nil))))) (.node (o_469 P) (.node (o_56 P) (.node (o_72 P) (.node (o_107 P) (.node (o_179 P) (.node (o_313 P) .nil .nil) (.node (o_445 P) .nil .nil)) (.node (o_245 P) (.node (o_379 P) .nil .nil) .nil)) (.node (o_145 P) (.node (o_211 P) (.node (o_345 P) .nil .nil) (.node (o_479 P) .nil .nil)) (.node (o_277 P) (.node (o_413 P) .nil .nil) .nil))) (.node (o_91 P) (.node (o_126 P) (.node (o_195 P) (.node (o_329 P) .nil .nil) (.node (o_461 P) .nil .nil)) (.node (o_261 P) (.node (o_395 P) .nil .nil) .nil)) (.node (o_161 P) (.node (o_229 P) (.node (o_363 P) .nil .nil) (.node (o_495 P) .nil .nil)) (.node (o_297 P) (.node (o_429 P) .nil .nil) .nil)))) (.node (o_64 P) (.node (o_80 P) (.node (o_118 P) (.node (o_187 P) (.node (o_321 P) .nil .nil) (.node (o_453 P) .nil .nil)) (.node (o_253 P) (.node (o_387 P) .nil .nil) .nil)) (.node (o_153 P) (.node (o_219 P) (.node (o_355 P) .nil .nil) (.node (o_487 P) .nil .nil)) (.node (o_285 P) (.node (o_421 P) .nil .nil) .nil))) (.node (o_99 P) (.node (o_137 P) (.node (o_203 P) (.node (o_337 P) .nil .nil) (.node (o_471 P) .nil .nil)) (.node (o_269 P) (.node (o_403 P) .nil .nil) .nil)) (.node (o_171 P) (.node (o_237 P) (.node (o_371 P) .nil .nil) (.node (o_503 P) .nil .nil)) (.node (o_305 P) (.node (o_437 P) .nil .nil) .nil)))))) (.node (boot_o_6 P) (.node (boot_o_10 P) (.node (o_54 P) (.node (o_70 P) (.node (o_105 P) (.node (o_177 P) (.node (o_311 P) .nil .nil) (.node (o_443 P) .nil .nil)) (.node (o_243 P) (.node (o_377 P) .nil .nil) .nil)) (.node (o_143 P) (.node (o_209 P) (.node (o_343 P) .nil .nil) (.node (o_477 P) .nil .nil)) (.node (o_275 P) (.node (o_409 P) .nil .nil) .nil))) (.node (o_89 P) (.node (o_124 P) (.node (o_193 P) (.node (o_327 P) .nil .nil) (.node (o_459 P) .nil .nil)) (.node (o_259 P) (.node (o_393 P) .nil .nil) .nil)) (.node (o_159 P) (.node (o_227 P) (.node (o_361 P) .nil .nil) (.node (o_493 P) .nil .nil)) (.node (o_295 P) (.node (o_427 P) .nil .nil) .nil)))) (.node (o_62 P) (.node (o_78 P) (.node (o_113 P) (.node (o_185 P) (.node (o_319 P) .nil .nil) (.node (o_451 P) .nil .nil)) (.node (o_251 P) (.node (o_385 P) .nil .nil) .nil)) (.node (o_151 P) (.node (o_217 P) (.node (o_353 P) .nil .nil) (.node (o_485 P) .nil .nil)) (.node (o_283 P) (.node (o_419 P) .nil .nil) .nil))) (.node (o_97 P) (.node (o_135 P) (.node (o_201 P) (.node (o_335 P) .nil .nil) (.node (o_467 P) .nil .nil)) (.node (o_267 P) (.node (o_401 P) .nil .nil) .nil)) (.node (o_169 P) (.node (o_235 P) (.node (o_369 P) .nil .nil) (.node (o_501 P) .nil .nil)) (.node (o_303 P) (.node (o_435 P) .nil .nil) .nil))))) (.node (o_46 P) (.node (o_58 P) (.node (o_74 P) (.node (o_109 P) (.node (o_181 P) (.node (o_315 P) .nil .nil) (.node (o_447 P) .nil .nil)) (.node (o_247 P) (.node (o_381 P) .nil .nil) .nil)) (.node (o_147 P) (.node (o_213 P) (.node (o_349 P) .nil .nil) (.node (o_481 P) .nil .nil)) (.node (o_279 P) (.node (o_415 P) .nil .nil) .nil))) (.node (o_93 P) (.node (o_128 P) (.node (o_197 P) (.node (o_331 P) .nil .nil) (.node (o_463 P) .nil .nil)) (.node (o_263 P) (.node (o_397 P) .nil .nil) .nil)) (.node (o_163 P) (.node (o_231 P) (.node (o_365 P) .nil .nil) (.node (o_497 P) .nil .nil)) (.node (o_299 P) (.node (o_431 P) .nil .nil) .nil)))) (.node (o_66 P) (.node (o_82 P) (.node (o_120 P) (.node (o_189 P) (.node (o_323 P) .nil .nil) (.node (o_455 P) .nil .nil)) (.node (o_255 P) (.node (o_389 P) .nil .nil) .nil)) (.node (o_155 P) (.node (o_223 P) (.node (o_357 P) .nil .nil) (.node (o_489 P) .nil .nil)) (.node (o_287 P) (.node (o_423 P) .nil .nil) .nil))) (.node (o_101 P) (.node (o_139 P) (.node (o_205 P) (.node (o_339 P) .nil .nil) (.node (o_473 P) .nil .nil)) (.node (o_271 P) (.node (o_405 P) .nil .nil) .nil)) (.node (o_173 P) (.node (o_239 P) (.node (o_373 P) .nil .nil) (.node (o_505 P) .nil .nil)) (.node (o_307 P) (.node (o_439 P) .nil .nil) .nil))))))))
noncomputable def tree_599 (P : Params) : BT := (.node (boot_o_0 P) (.node (boot_o_1 P) (.node (o_542 P) (.node (boot_o_7 P) (.node (o_51 P) (.node (o_67 P) (.node (o_102 P) (.node (o_174 P) (.node (o_308 P) (.node (o_574 P) .nil .nil) .nil) (.node (o_440 P) .nil .nil)) (.node (o_240 P) (.node (o_374 P) .nil .nil) (.node (o_506 P) .nil .nil))) (.node (o_140 P) (.node (o_206 P) (.node (o_340 P) .nil .nil) (.node (o_474 P) .nil .nil)) (.node (o_272 P) (.node (o_406 P) .nil .nil) (.node (o_540 P) .nil .nil)))) (.node (o_86 P) (.node (o_121 P) (.node (o_190 P) (.node (o_324 P) (.node (o_590 P) .nil .nil) .nil) (.node (o_456 P) .nil .nil)) (.node (o_256 P) (.node (o_390 P) .nil .nil) (.node (o_524 P) .nil .nil))) (.node (o_156 P) (.node (o_224 P) (.node (o_358 P) .nil .nil) (.node (o_490 P) .nil .nil)) (.node (o_288 P) (.node (o_424 P) .nil .nil) (.node (o_558 P) .nil .nil))))) (.node (o_59 P) (.node (o_75 P) (.node (o_131 P) (.node (o_182 P) (.node (o_316 P) (.node (o_582 P) .nil .nil) .nil) (.node (o_448 P) .nil .nil)) (.node (o_248 P) (.node (o_382 P) .nil .nil) (.node (o_516 P) .nil .nil))) (.node (o_148 P) (.node (o_214 P) (.node (o_350 P) .nil .nil) (.node (o_482 P) .nil .nil)) (.node (o_280 P) (.node (o_416 P) .nil .nil) (.node (o_550 P) .nil .nil)))) (.node (o_94 P) (.node (o_132 P) (.node (o_198 P) (.node (o_332 P) (.node (o_598 P) .nil .nil) .nil) (.node (o_464 P) .nil .nil)) (.node (o_264 P) (.node (o_398 P) .nil .nil) (.node (o_532 P) .nil .nil))) (.node (o_164 P) (.node (o_232 P) (.node (o_366 P) .nil .nil) (.node (o_498 P) .nil .nil)) (.node (o_300 P) (.node (o_432 P) .nil .nil) (.node (o_566 P) .nil .nil)))))) (.node (o_43 P) (.node (o_55 P) (.node (o_71 P) (.node (o_106 P) (.node (o_178 P) (.node (o_312 P) (.node (o_578 P) .nil .nil) .nil) (.node (o_444 P) .nil .nil)) (.node (o_244 P) (.node (o_378 P) .nil .nil) (.node (o_512 P) .nil .nil))) (.node (o_144 P) (.node (o_210 P) (.node (o_344 P) .nil .nil) (.node (o_478 P) .nil .nil)) (.node (o_276 P) (.node (o_412 P) .nil .nil) (.node (o_546 P) .nil .nil)))) (.node (o_90 P) (.node (o_125 P) (.node (o_194 P) (.node (o_328 P) (.node (o_594 P) .nil .nil) .nil) (.node (o_460 P) .nil .nil)) (.node (o_260 P) (.node (o_394 P) .nil .nil) (.node (o_528 P) .nil .nil))) (.node (o_160 P) (.node (o_228 P) (.node (o_362 P) .nil .nil) (.node (o_494 P) .nil .nil)) (.node (o_296 P) (.node (o_428 P) .nil .nil) (.node (o_562 P) .nil .nil))))) (.node (o_63 P) (.node (o_79 P) (.node (o_117 P) (.node (o_186 P) (.node (o_320 P) (.node (o_586 P) .nil .nil) .nil) (.node (o_452 P) .nil .nil)) (.node (o_252 P) (.node (o_386 P) .nil .nil) (.node (o_520 P) .nil .nil))) (.node (o_152 P) (.node (o_218 P) (.node (o_354 P) .nil .nil) (.node (o_486 P) .nil .nil)) (.node (o_284 P) (.node (o_420 P) .nil .nil) (.node (o_554 P) .nil .nil)))) (.node (o_98 P) (.node (o_136 P) (.node (o_202 P) (.node (o_336 P) .nil .nil) (.node (o_470 P) .nil .nil)) (.node (o_268 P) (.node (o_402 P) .nil .nil) (.node (o_536 P) .nil .nil))) (.node (o_170 P) (.node (o_236 P) (.node (o_370 P) .nil .nil) (.node (o_502 P) .nil .nil)) (.node (o_304 P) (.node (o_436 P) .nil .nil) (.node (o_570 P) .nil .nil))))))) (.node (boot_o_5 P) (.node (boot_o_9 P) (.node (o_53 P) (.node (o_69 P) (.node (o_104 P) (.node (o_176 P) (.node (o_310 P) (.node (o_576 P) .nil .nil) .nil) (.node (o_442 P) .nil .nil)) (.node (o_242 P) (.node (o_376 P) .nil .nil) (.node (o_510 P) .nil .nil))) (.node (o_142 P) (.node (o_208 P) (.node (o_342 P) .nil .nil) (.node (o_476 P) .nil .nil)) (.node (o_274 P) (.node (o_408 P) .nil .nil) (.node (o_544 P) .nil .nil)))) (.node (o_88 P) (.node (o_123 P) (.node (o_192 P) (.node (o_326 P) (.node (o_592 P) .nil .nil) .nil) (.node (o_458 P) .nil .nil)) (.node (o_258 P) (.node (o_392 P) .nil .nil) (.node (o_526 P) .nil .nil))) (.node (o_158 P) (.node (o_226 P) (.node (o_360 P) .nil .nil) (.node (o_492 P) .nil .nil)) (.node (o_294 P) (.node (o_426 P) .nil .nil) (.node (o_560 P) .nil .nil))))) (.node (o_61 P) (.node (o_77 P) (.node (o_112 P) (.node (o_184 P) (.node (o_318 P) (.node (o_584 P) .nil .nil) .nil) (.node (o_450 P) .nil .nil)) (.node (o_250 P) (.node (o_384 P) .nil .nil) (.node (o_518 P) .nil .nil))) (.node (o_150 P) (.node (o_216 P) (.node (o_352 P) .nil .nil) (.node (o_484 P) .nil .nil)) (.node (o_282 P) (.node (o_418 P) .nil .nil) (.node (o_552 P) .nil .nil)))) (.node (o_96 P) (.node (o_134 P) (.node (o_200 P) (.node (o_334 P) .nil .nil) (.node (o_466 P) .nil .nil)) (.node (o_266 P) (.node (o_400 P) .nil .nil) (.node (o_534 P) .nil .nil))) (.node (o_168 P) (.node (o_234 P) (.node (o_368 P) .nil .nil) (.node (o_500 P) .nil .nil)) (.node (o_302 P) (.node (o_434 P) .nil .nil) (.node (o_568 P) .nil .nil)))))) (.node (o_45 P) (.node (o_57 P) (.node (o_73 P) (.node (o_108 P) (.node (o_180 P) (.node (o_314 P) (.node (o_580 P) .nil .nil) .nil) (.node (o_446 P) .nil .nil)) (.node (o_246 P) (.node (o_380 P) .nil .nil) (.node (o_514 P) .nil .nil))) (.node (o_146 P) (.node (o_212 P) (.node (o_346 P) .nil .nil) (.node (o_480 P) .nil .nil)) (.node (o_278 P) (.node (o_414 P) .nil .nil) (.node (o_548 P) .nil .nil)))) (.node (o_92 P) (.node (o_127 P) (.node (o_196 P) (.node (o_330 P) (.node (o_596 P) .nil .nil) .nil) (.node (o_462 P) .nil .nil)) (.node (o_262 P) (.node (o_396 P) .nil .nil) (.node (o_530 P) .nil .nil))) (.node (o_162 P) (.node (o_230 P) (.node (o_364 P) .nil .nil) (.node (o_496 P) .nil .nil)) (.node (o_298 P) (.node (o_430 P) .nil .nil) (.node (o_564 P) .nil .nil))))) (.node (o_65 P) (.node (o_81 P) (.node (o_119 P) (.node (o_188 P) (.node (o_322 P) (.node (o_588 P) .nil .nil) .nil) (.node (o_454 P) .nil .nil)) (.node (o_254 P) (.node (o_388 P) .nil .nil) (.node (o_522 P) .nil .nil))) (.node (o_154 P) (.node (o_220 P) (.node (o_356 P) .nil .nil) (.node (o_488 P) .nil .nil)) (.node (o_286 P) (.node (o_422 P) .nil .nil) (.node (o_556 P) .nil .nil)))) (.node (o_100 P) (.node (o_138 P) (.node (o_204 P) (.node (o_338 P) .nil .nil) (.node (o_472 P) .nil .nil)) (.node (o_270 P) (.node (o_404 P) .nil .nil) (.node (o_538 P) .nil .nil))) (.node (o_172 P) (.node (o_238 P) (.node (o_372 P) .nil .nil) (.node (o_504 P) .nil .nil)) (.node (o_306 P) (.node (o_438 P) .nil .nil) (.node (o_572 P) .nil .nil)))))))) (.node (o_83 P) (.node (boot_o_4 P) (.node (boot_o_8 P) (.node (o_52 P) (.node (o_68 P) (.node (o_103 P) (.node (o_175 P) (.node (o_309 P) (.node (o_575 P) .nil .nil) .nil) (.node (o_441 P) .nil .nil)) (.node (o_241 P) (.node (o_375 P) .nil .nil) (.node (o_509 P) .nil .nil))) (.node (o_141 P) (.node (o_207 P) (.node (o_341 P) .nil .nil) (.node (o_475 P) .nil .nil)) (.node (o_273 P) (.node (o_407 P) .nil .nil) (.node (o_541 P) .nil .nil)))) (.node (o_87 P) (.node (o_122 P) (.node (o_191 P) (.node (o_325 P) (.node (o_591 P) .nil .nil) .nil) (.node (o_457 P) .nil .nil)) (.node (o_257 P) (.node (o_391 P) .nil .nil) (.node (o_525 P) .nil .nil))) (.node (o_157 P) (.node (o_225 P) (.node (o_359 P) .nil .nil) (.node (o_491 P) .nil .nil)) (.node (o_293 P) (.node (o_425 P) .nil .nil) (.node (o_559 P) .nil .nil))))) (.node (o_60 P) (.node (o_76 P) (.node (o_111 P) (.node (o_183 P) (.node (o_317 P) (.node (o_583 P) .nil .nil) .nil) (.node (o_449 P) .nil .nil)) (.node (o_249 P) (.node (o_383 P) .nil .nil) (.node (o_517 P) .nil .nil))) (.node (o_149 P) (.node (o_215 P) (.node (o_351 P) .nil .nil) (.node (o_483 P) .nil .nil)) (.node (o_281 P) (.node (o_417 P) .nil .nil) (.node (o_551 P) .nil .nil)))) (.node (o_95 P) (.node (o_133 P) (.node (o_199 P) (.node (o_333 P) (.node (o_599 P) .nil .nil) .nil) (.node (o_465 P) .nil .nil)) (.node (o_265 P) (.node (o_399 P) .nil .nil) (.node (o_533 P) .nil .nil))) (.node (o_167 P) (.node (o_233 P) (.node (o_367 P) .nil .nil) (.node (o_499 P) .nil .nil)) (.node (o_301 P) (.node (o_433 P) .nil .nil) (.node (o_567 P) .nil .nil)))))) (.node (o_543 P) (.node (o_56 P) (.node (o_72 P) (.node (o_107 P) (.node (o_179 P) (.node (o_313 P) (.node (o_579 P) .nil .nil) .nil) (.node (o_445 P) .nil .nil)) (.node (o_245 P) (.node (o_379 P) .nil .nil) (.node (o_513 P) .nil .nil))) (.node (o_145 P) (.node (o_211 P) (.node (o_345 P) .nil .nil) (.node (o_479 P) .nil .nil)) (.node (o_277 P) (.node (o_413 P) .nil .nil) (.node (o_547 P) .nil .nil)))) (.node (o_91 P) (.node (o_126 P) (.node (o_195 P) (.node (o_329 P) (.node (o_595 P) .nil .nil) .nil) (.node (o_461 P) .nil .nil)) (.node (o_261 P) (.node (o_395 P) .nil .nil) (.node (o_529 P) .nil .nil))) (.node (o_161 P) (.node (o_229 P) (.node (o_363 P) .nil .nil) (.node (o_495 P) .nil .nil)) (.node (o_297 P) (.node (o_429 P) .nil .nil) (.node (o_563 P) .nil .nil))))) (.node (o_64 P) (.node (o_80 P) (.node (o_118 P) (.node (o_187 P) (.node (o_321 P) (.node (o_587 P) .nil .nil) .nil) (.node (o_453 P) .nil .nil)) (.node (o_253 P) (.node (o_387 P) .nil .nil) (.node (o_521 P) .nil .nil))) (.node (o_153 P) (.node (o_219 P) (.node (o_355 P) .nil .nil) (.node (o_487 P) .nil .nil)) (.node (o_285 P) (.node (o_421 P) .nil .nil) (.node (o_555 P) .nil .nil)))) (.node (o_99 P) (.node (o_137 P) (.node (o_203 P) (.node (o_337 P) .nil .nil) (.node (o_471 P) .nil .nil)) (.node (o_269 P) (.node (o_403 P) .nil .nil) (.node (o_537 P) .nil .nil))) (.node (o_171 P) (.node (o_237 P) (.node (o_371 P) .nil .nil) (.node (o_503 P) .nil .nil)) (.node (o_305 P) (.node (o_437 P) .nil .nil) (.node (o_571 P) .nil .nil))))))) (.node (boot_o_6 P) (.node (boot_o_10 P) (.node (o_54 P) (.node (o_70 P) (.node (o_105 P) (.node (o_177 P) (.node (o_311 P) (.node (o_577 P) .nil .nil) .nil) (.node (o_443 P) .nil .nil)) (.node (o_243 P) (.node (o_377 P) .nil .nil) (.node (o_511 P) .nil .nil))) (.node (o_143 P) (.node (o_209 P) (.node (o_343 P) .nil .nil) (.node (o_477 P) .nil .nil)) (.node (o_275 P) (.node (o_409 P) .nil .nil) (.node (o_545 P) .nil .nil)))) (.node (o_89 P) (.node (o_124 P) (.node (o_193 P) (.node (o_327 P) (.node (o_593 P) .nil .nil) .nil) (.node (o_459 P) .nil .nil)) (.node (o_259 P) (.node (o_393 P) .nil .nil) (.node (o_527 P) .nil .nil))) (.node (o_159 P) (.node (o_227 P) (.node (o_361 P) .nil .nil) (.node (o_493 P) .nil .nil)) (.node (o_295 P) (.node (o_427 P) .nil .nil) (.node (o_561 P) .nil .nil))))) (.node (o_62 P) (.node (o_78 P) (.node (o_113 P) (.node (o_185 P) (.node (o_319 P) (.node (o_585 P) .nil .nil) .nil) (.node (o_451 P) .nil .nil)) (.node (o_251 P) (.node (o_385 P) .nil .nil) (.node (o_519 P) .nil .nil))) (.node (o_151 P) (.node (o_217 P) (.node (o_353 P) .nil .nil) (.node (o_485 P) .nil .nil)) (.node (o_283 P) (.node (o_419 P) .nil .nil) (.node (o_553 P) .nil .nil)))) (.node (o_97 P) (.node (o_135 P) (.node (o_201 P) (.node (o_335 P) .nil .nil) (.node (o_467 P) .nil .nil)) (.node (o_267 P) (.node (o_401 P) .nil .nil) (.node (o_535 P) .nil .nil))) (.node (o_169 P) (.node (o_235 P) (.node (o_369 P) .nil .nil) (.node (o_501 P) .nil .nil)) (.node (o_303 P) (.node (o_435 P) .nil .nil) (.node (o_569 P) .nil .nil)))))) (.node (o_46 P) (.node (o_58 P) (.node (o_74 P) (.node (o_109 P) (.node (o_181 P) (.node (o_315 P) (.node (o_581 P) .nil .nil) .nil) (.node (o_447 P) .nil .nil)) (.node (o_247 P) (.node (o_381 P) .nil .nil) (.node (o_515 P) .nil .nil))) (.node (o_147 P) (.node (o_213 P) (.node (o_349 P) .nil .nil) (.node (o_481 P) .nil .nil)) (.node (o_279 P) (.node (o_415 P) .nil .nil) (.node (o_549 P) .nil .nil)))) (.node (o_93 P) (.node (o_128 P) (.node (o_197 P) (.node (o_331 P) (.node (o_597 P) .nil .nil) .nil) (.node (o_463 P) .nil .nil)) (.node (o_263 P) (.node (o_397 P) .nil .nil) (.node (o_531 P) .nil .nil))) (.node (o_163 P) (.node (o_231 P) (.node (o_365 P) .nil .nil) (.node (o_497 P) .nil .nil)) (.node (o_299 P) (.node (o_431 P) .nil .nil) (.node (o_565 P) .nil .nil))))) (.node (o_66 P) (.node (o_82 P) (.node (o_120 P) (.node (o_189 P) (.node (o_323 P) (.node (o_589 P) .nil .nil) .nil) (.node (o_455 P) .nil .nil)) (.node (o_255 P) (.node (o_389 P) .nil .nil) (.node (o_523 P) .nil .nil))) (.node (o_155 P) (.node (o_223 P) (.node (o_357 P) .nil .nil) (.node (o_489 P) .nil .nil)) (.node (o_287 P) (.node (o_423 P) .nil .nil) (.node (o_557 P) .nil .nil)))) (.node (o_101 P) (.node (o_139 P) (.node (o_205 P) (.node (o_339 P) .nil .nil) (.node (o_473 P) .nil .nil)) (.node (o_271 P) (.node (o_405 P) .nil .nil) (.node (o_539 P) .nil .nil))) (.node (o_173 P) (.node (o_239 P) (.node (o_373 P) .nil .nil) (.node (o_505 P) .nil .nil)) (.node (o_307 P) (.node (o_439 P) .nil .nil) (.node (o_573 P) .nil .nil)))))))))
noncomputable def heap_721 (P : Params) : Heap := ⟨#[(boot_o_0 P), (boot_o_1 P), (o_83 P), (o_674 P), (boot_o_4 P), (boot_o_5 P), (boot_o_6 P), (boot_o_7 P), (boot_o_8 P), (boot_o_9 P), (boot_o_10 P), (o_43 P), (o_675 P), (o_45 P), (o_46 P), (o_51 P), (o_52 P), (o_53 P), (o_54 P), (o_55 P), (o_56 P), (o_57 P), (o_58 P), (o_59 P), (o_60 P), (o_61 P), (o_62 P), (o_63 P), (o_64 P), (o_65 P), (o_66 P), (o_67 P), (o_68 P), (o_69 P), (o_70 P), (o_71 P), (o_72 P), (o_73 P), (o_74 P), (o_75 P), (o_76 P), (o_77 P), (o_78 P), (o_79 P), (o_80 P), (o_81 P), (o_82 P), (o_86 P), (o_87 P), (o_88 P), (o_89 P), (o_90 P), (o_91 P), (o_92 P), (o_93 P), (o_94 P), (o_95 P), (o_96 P), (o_97 P), (o_98 P), (o_99 P), (o_100 P), (o_101 P), (o_102 P), (o_103 P), (o_104 P), (o_105 P), (o_106 P), (o_107 P), (o_108 P), (o_109 P), (o_131 P), (o_111 P), (o_112 P), (o_113 P), (o_117 P), (o_118 P), (o_119 P), (o_120 P), (o_121 P), (o_122 P), (o_123 P), (o_124 P), (o_125 P), (o_126 P), (o_127 P), (o_128 P), (o_132 P), (o_133 P), (o_134 P), (o_135 P), (o_136 P), (o_137 P), (o_138 P), (o_139 P), (o_140 P), (o_141 P), (o_142 P), (o_143 P), (o_144 P), (o_145 P), (o_146 P), (o_147 P), (o_148 P), (o_149 P), (o_150 P), (o_151 P), (o_152 P), (o_153 P), (o_154 P), (o_155 P), (o_156 P), (o_157 P), (o_158 P), (o_159 P), (o_160 P), (o_161 P), (o_162 P), (o_163 P), (o_164 P), (o_167 P), (o_168 P), (o_169 P), (o_170 P), (o_171 P), (o_172 P), (o_173 P), (o_174 P), (o_175 P), (o_176 P), (o_177 P), (o_178 P), (o_179 P), (o_180 P), (o_181 P), (o_182 P), (o_183 P), (o_184 P), (o_185 P), (o_186 P), (o_187 P), (o_188 P), (o_189 P), (o_190 P), (o_191 P), (o_192 P), (o_193 P), (o_194 P), (o_195 P), (o_196 P), (o_197 P), (o_198 P), (o_199 P), (o_200 P), (o_201 P), (o_202 P), (o_203 P), (o_204 P), (o_205 P), (o_206 P), (o_207 P), (o_208 P), (o_209 P), (o_210 P), (o_211 P), (o_212 P), (o_213 P), (o_214 P), (o_215 P), (o_216 P), (o_217 P), (o_218 P), (o_219 P), (o_220 P), (o_223 P), (o_224 P), (o_225 P), (o_226 P), (o_227 P), (o_228 P), (o_229 P), (o_230 P), (o_231 P), (o_232 P), (o_233 P), (o_234 P), (o_235 P), (o_236 P), (o_237 P), (o_238 P), (o_239 P), (o_240 P), (o_241 P), (o_242 P), (o_243 P), (o_244 P), (o_245 P), (o_246 P), (o_247 P), (o_248 P), (o_249 P), (o_250 P), (o_251 P), (o_252 P), (o_253 P), (o_254 P), (o_255 P), (o_256 P), (o_257 P), (o_258 P), (o_259 P), (o_260 P), (o_261 P), (o_262 P), (o_263 P), (o_264 P), (o_265 P), (o_266 P), (o_267 P), (o_268 P), (o_269 P), (o_270 P), (o_271 P), (o_272 P), (o_273 P), (o_274 P), (o_275 P), (o_276 P), (o_277 P), (o_278 P), (o_279 P), (o_280 P), (o_281 P), (o_282 P), (o_283 P), (o_284 P), (o_285 P), (o_286 P), (o_287 P), (o_288 P), (o_293 P), (o_294 P), (o_295 P), (o_296 P), (o_297 P), (o_298 P), (o_299 P), (o_300 P), (o_301 P), (o_302 P), (o_303 P), (o_304 P), (o_305 P), (o_306 P), (o_307 P), (o_308 P), (o_309 P), (o_310 P), (o_311 P), (o_312 P), (o_313 P), (o_314 P), (o_315 P), (o_316 P), (o_317 P), (o_318 P), (o_319 P), (o_320 P), (o_321 P), (o_322 P), (o_323 P), (o_324 P), (o_325 P), (o_326 P), (o_327 P), (o_328 P), (o_329 P), (o_330 P), (o_331 P), (o_332 P), (o_333 P), (o_334 P), (o_335 P), (o_336 P), (o_337 P), (o_338 P), (o_339 P), (o_340 P), (o_341 P), (o_342 P), (o_343 P), (o_344 P), (o_345 P), (o_346 P), (o_349 P), (o_350 P), (o_351 P), (o_352 P), (o_353 P), (o_354 P), (o_355 P), (o_356 P), (o_357 P), (o_358 P), (o_359 P), (o_360 P), (o_361 P), (o_362 P), (o_363 P), (o_364 P), (o_365 P), (o_366 P), (o_367 P), (o_368 P), (o_369 P), (o_370 P), (o_371 P), (o_372 P), (o_373 P), (o_374 P), (o_375 P), (o_376 P), (o_377 P), (o_378 P), (o_379 P), (o_380 P), (o_381 P), (o_382 P), (o_383 P), (o_384 P), (o_385 P), (o_386 P), (o_387 P), (o_388 P), (o_389 P), (o_390 P), (o_391 P), (o_392 P), (o_393 P), (o_394 P), (o_395 P), (o_396 P), (o_397 P), (o_398 P), (o_399 P), (o_400 P), (o_401 P), (o_402 P), (o_403 P), (o_404 P), (o_405 P), (o_406 P), (o_407 P), (o_408 P), (o_409 P), (o_412 P), (o_413 P), (o_414 P), (o_415 P), (o_416 P), (o_417 P), (o_418 P), (o_419 P), (o_420 P), (o_421 P), (o_422 P), (o_423 P), (o_424 P), (o_425 P), (o_426 P), (o_427 P), (o_428 P), (o_429 P), (o_430 P), (o_431 P), (o_432 P), (o_433 P), (o_434 P), (o_435 P), (o_436 P), (o_437 P), (o_438 P), (o_439 P), (o_440 P), (o_441 P), (o_442 P), (o_443 P), (o_444 P), (o_445 P), (o_446 P), (o_447 P), (o_448 P), (o_449 P), (o_450 P), (o_451 P), (o_452 P), (o_453 P), (o_454 P), (o_455 P), (o_456 P), (o_457 P), (o_458 P), (o_459 P), (o_460 P), (o_461 P), (o_462 P), (o_463 P), (o_464 P), (o_465 P), (o_466 P), (o_467 P), (o_470 P), (o_471 P), (o_472 P), (o_473 P), (o_474 P), (o_475 P), (o_476 P), (o_477 P), (o_478 P), (o_479 P), (o_480 P), (o_481 P), (o_482 P), (o_483 P), (o_484 P), (o_485 P), (o_486 P), (o_487 P), (o_488 P), (o_489 P), (o_490 P), (o_491 P), (o_492 P), (o_493 P), (o_494 P), (o_495 P), (o_496 P), (o_497 P), (o_498 P), (o_499 P), (o_500 P), (o_501 P), (o_502 P), (o_503 P), (o_504 P), (o_505 P), (o_506 P), (o_509 P), (o_510 P), (o_511 P), (o_512 P), (o_513 P), (o_514 P), (o_515 P), (o_516 P), (o_517 P), (o_518 P), (o_519 P), (o_520 P), (o_521 P), (o_522 P), (o_523 P), (o_524 P), (o_525 P), (o_526 P), (o_527 P), (o_528 P), (o_529 P), (o_530 P), (o_531 P), (o_532 P), (o_533 P), (o_534 P), (o_535 P), (o_536 P), (o_537 P), (o_538 P), (o_539 P), (o_540 P), (o_541 P), (o_544 P), (o_545 P), (o_546 P), (o_547 P), (o_548 P), (o_549 P), (o_550 P), (o_551 P), (o_552 P), (o_553 P), (o_554 P), (o_555 P), (o_556 P), (o_557 P), (o_558 P), (o_559 P), (o_560 P), (o_561 P), (o_562 P), (o_563 P), (o_564 P), (o_565 P), (o_566 P), (o_567 P), (o_568 P), (o_569 P), (o_570 P), (o_571 P), (o_572 P), (o_573 P), (o_574 P), (o_575 P), (o_576 P), (o_577 P), (o_578 P), (o_579 P), (o_580 P), (o_581 P), (o_582 P), (o_583 P), (o_584 P), (o_585 P), (o_586 P), (o_587 P), (o_588 P), (o_589 P), (o_590 P), (o_591 P), (o_592 P), (o_593 P), (o_594 P), (o_595 P), (o_596 P), (o_597 P), (o_598 P), (o_599 P), (o_602 P), (o_603 P), (o_604 P), (o_605 P), (o_606 P), (o_607 P), (o_608 P), (o_609 P), (o_610 P), (o_611 P), (o_612 P), (o_613 P), (o_614 P), (o_615 P), (o_616 P), (o_617 P), (o_618 P), (o_619 P), (o_620 P), (o_621 P), (o_622 P), (o_623 P), (o_624 P), (o_625 P), (o_626 P), (o_627 P), (o_628 P), (o_629 P), (o_630 P), (o_631 P), (o_632 P), (o_633 P), (o_634 P), (o_635 P), (o_636 P), (o_637 P), (o_638 P), (o_639 P), (o_640 P), (o_641 P), (o_642 P), (o_643 P), (o_644 P), (o_645 P), (o_646 P), (o_647 P), (o_648 P), (o_649 P), (o_650 P), (o_651 P), (o_652 P), (o_653 P), (o_654 P), (o_655 P), (o_656 P), (o_657 P), (o_658 P), (o_659 P), (o_660 P), (o_661 P), (o_662 P), (o_663 P), (o_664 P), (o_665 P), (o_666 P), (o_667 P), (o_668 P), (o_669 P), (o_670 P), (o_671 P), (o_676 P), (o_677 P), (o_678 P), (o_679 P), (o_680 P), (o_681 P), (o_682 P), (o_683 P), (o_684 P), (o_685 P), (o_686 P), (o_687 P), (o_688 P), (o_689 P), (o_690 P), (o_691 P), (o_692 P), (o_693 P), (o_694 P), (o_695 P), (o_696 P), (o_697 P), (o_698 P), (o_699 P), (o_700 P), (o_701 P), (o_702 P), (o_703 P), (o_704 P), (o_705 P), (o_706 P), (o_707 P), (o_708 P), (o_709 P), (o_710 P), (o_711 P), (o_712 P), (o_713 P), (o_714 P), (o_715 P), (o_716 P), (o_717 P), (o_718 P), (o_719 P), (o_720 P)], ⟨[], [], [], 0, [], [], false, #[], [], 0, false, false, false, 0, [2000, 10, 10], false, 0, true, [], [], 0, false⟩⟩
noncomputable def tree_289 (P : Params) : BT := (.node (boot_o_0 P) (.node (boot_o_1 P) (.node (o_289 P) (.node (boot_o_7 P) (.node (o_51 P) (.node (o_67 P) (.node (o_102 P) (.node (o_174 P) .nil .nil) (.node (o_240 P) .nil .nil)) (.node (o_140 P) (.node (o_206 P) .nil .nil) (.node (o_272 P) .nil .nil))) (.node (o_86 P) (.node (o_121 P) (.node (o_190 P) .nil .nil) (.node (o_256 P) .nil .nil)) (.node (o_156 P) (.node (o_224 P) .nil .nil) (.node (o_288 P) .nil .nil)))) (.node (o_59 P) (.node (o_75 P) (.node (o_131 P) (.node (o_182 P) .nil .nil) (.node (o_248 P) .nil .nil)) (.node (o_148 P) (.node (o_214 P) .nil .nil) (.node (o_280 P) .nil .nil))) (.node (o_94 P) (.node (o_132 P) (.node (o_198 P) .nil .nil) (.node (o_264 P) .nil .nil)) (.node (o_164 P) (.node (o_232 P) .nil .nil) .nil)))) (.node (o_43 P) (.node (o_55 P) (.node (o_71 P) (.node (o_106 P) (.node (o_178 P) .nil .nil) (.node (o_244 P) .nil .nil)) (.node (o_144 P) (.node (o_210 P) .nil .nil) (.node (o_276 P) .nil .nil))) (.node (o_90 P) (.node (o_125 P) (.node (o_194 P) .nil .nil) (.node (o_260 P) .nil .nil)) (.node (o_160 P) (.node (o_228 P) .nil .nil) .nil))) (.node (o_63 P) (.node (o_79 P) (.node (o_117 P) (.node (o_186 P) .nil .nil) (.node (o_252 P) .nil .nil)) (.node (o_152 P) (.node (o_218 P) .nil .nil) (.node (o_284 P) .nil .nil))) (.node (o_98 P) (.node (o_136 P) (.node (o_202 P) .nil .nil) (.node (o_268 P) .nil .nil)) (.node (o_170 P) (.node (o_236 P) .nil .nil) .nil))))) (.node (boot_o_5 P) (.node (boot_o_9 P) (.node (o_53 P) (.node (o_69 P) (.node (o_104 P) (.node (o_176 P) .nil .nil) (.node (o_242 P) .nil .nil)) (.node (o_142 P) (.node (o_208 P) .nil .nil) (.node (o_274 P) .nil .nil))) (.node (o_88 P) (.node (o_123 P) (.node (o_192 P) .nil .nil) (.node (o_258 P) .nil .nil)) (.node (o_158 P) (.node (o_226 P) .nil .nil) .nil))) (.node (o_61 P) (.node (o_77 P) (.node (o_112 P) (.node (o_184 P) .nil .nil) (.node (o_250 P) .nil .nil)) (.node (o_150 P) (.node (o_216 P) .nil .nil) (.node (o_282 P) .nil .nil))) (.node (o_96 P) (.node (o_134 P) (.node (o_200 P) .nil .nil) (.node (o_266 P) .nil .nil)) (.node (o_168 P) (.node (o_234 P) .nil .nil) .nil)))) (.node (o_45 P) (.node (o_57 P) (.node (o_73 P) (.node (o_108 P) (.node (o_180 P) .nil .nil) (.node (o_246 P) .nil .nil)) (.node (o_146 P) (.node (o_212 P) .nil .nil) (.node (o_278 P) .nil .nil))) (.node (o_92 P) (.node (o_127 P) (.node (o_196 P) .nil .nil) (.node (o_262 P) .nil .nil)) (.node (o_162 P) (.node (o_230 P) .nil .nil) .nil))) (.node (o_65 P) (.node (o_81 P) (.node (o_119 P) (.node (o_188 P) .nil .nil) (.node (o_254 P) .nil .nil)) (.node (o_154 P) (.node (o_220 P) .nil .nil) (.node (o_286 P) .nil .nil))) (.node (o_100 P) (.node (o_138 P) (.node (o_204 P) .nil .nil) (.node (o_270 P) .nil .nil)) (.node (o_172 P) (.node (o_238 P) .nil .nil) .nil)))))) (.node (o_83 P) (.node (boot_o_4 P) (.node (boot_o_8 P) (.node (o_52 P) (.node (o_68 P) (.node (o_103 P) (.node (o_175 P) .nil .nil) (.node (o_241 P) .nil .nil)) (.node (o_141 P) (.node (o_207 P) .nil .nil) (.node (o_273 P) .nil .nil))) (.node (o_87 P) (.node (o_122 P) (.node (o_191 P) .nil .nil) (.node (o_257 P) .nil .nil)) (.node (o_157 P) (.node (o_225 P) .nil .nil) .nil))) (.node (o_60 P) (.node (o_76 P) (.node (o_111 P) (.node (o_183 P) .nil .nil) (.node (o_249 P) .nil .nil)) (.node (o_149 P) (.node (o_215 P) .nil .nil) (.node (o_281 P) .nil .nil))) (.node (o_95 P) (.node (o_133 P) (.node (o_199 P) .nil .nil) (.node (o_265 P) .nil .nil)) (.node (o_167 P) (.node (o_233 P) .nil .nil) .nil)))) (.node (o_222 P) (.node (o_56 P) (.node (o_72 P) (.node (o_107 P) (.node (o_179 P) .nil .nil) (.node (o_245 P) .nil .nil)) (.node (o_145 P) (.node (o_211 P) .nil .nil) (.node (o_277 P) .nil .nil))) (.node (o_91 P) (.node (o_126 P) (.node (o_195 P) .nil .nil) (.node (o_261 P) .nil .nil)) (.node (o_161 P) (.node (o_229 P) .nil .nil) .nil))) (.node (o_64 P) (.node (o_80 P) (.node (o_118 P) (.node (o_187 P) .nil .nil) (.node (o_253 P) .nil .nil)) (.node (o_153 P) (.node (o_219 P) .nil .nil) (.node (o_285 P) .nil .nil))) (.node (o_99 P) (.node (o_137 P) (.node (o_203 P) .nil .nil) (.node (o_269 P) .nil .nil)) (.node (o_171 P) (.node (o_237 P) .nil .nil) .nil))))) (.node (boot_o_6 P) (.node (boot_o_10 P) (.node (o_54 P) (.node (o_70 P) (.node (o_105 P) (.node (o_177 P) .nil .nil) (.node (o_243 P) .nil .nil)) (.node (o_143 P) (.node (o_209 P) .nil .nil) (.node (o_275 P) .nil .nil))) (.node (o_89 P) (.node (o_124 P) (.node (o_193 P) .nil .nil) (.node (o_259 P) .nil .nil)) (.node (o_159 P) (.node (o_227 P) .nil .nil) .nil))) (.node (o_62 P) (.node (o_78 P) (.node (o_113 P) (.node (o_185 P) .nil .nil) (.node (o_251 P) .nil .nil)) (.node (o_151 P) (.node (o_217 P) .nil .nil) (.node (o_283 P) .nil .nil))) (.node (o_97 P) (.node (o_135 P) (.node (o_201 P) .nil .nil) (.node (o_267 P) .nil .nil)) (.node (o_169 P) (.node (o_235 P) .nil .nil) .nil)))) (.node (o_46 P) (.node (o_58 P) (.node (o_74 P) (.node (o_109 P) (.node (o_181 P) .nil .nil) (.node (o_247 P) .nil .nil)) (.node (o_147 P) (.node (o_213 P) .nil .nil) (.node (o_279 P) .nil .nil))) (.node (o_93 P) (.node (o_128 P) (.node (o_197 P) .nil .nil) (.node (o_263 P) .nil .nil)) (.node (o_163 P) (.node (o_231 P) .nil .nil) .nil))) (.node (o_66 P) (.node (o_82 P) (.node (o_120 P) (.node (o_189 P) .nil .nil) (.node (o_255 P) .nil .nil)) (.node (o_155 P) (.node (o_223 P) .nil .nil) (.node (o_287 P) .nil .nil))) (.node (o_101 P) (.node (o_139 P) (.node (o_205 P) .nil .nil) (.node (o_271 P) .nil .nil)) (.node (o_173 P) (.node (o_239 P) .nil .nil) .nil)))))))
noncomputable def heap_46 (P : Params) : Heap := ⟨#[(boot_o_0 P), (boot_o_1 P), (boot_o_2 P), (boot_o_3 P), (boot_o_4 P), (boot_o_5 P), (boot_o_6 P), (boot_o_7 P), (boot_o_8 P), (boot_o_9 P), (boot_o_10 P), (o_43 P), (o_44 P), (o_45 P), (o_46 P)], ⟨[], [], [], 0, [], [], false, #[], [], 0, false, false, false, 0, [2000, 10, 10], false, 0, true, [], [], 0, false⟩⟩
noncomputable def tree_164 (P : Params) : BT := (.node (boot_o_0 P) (.node (boot_o_1 P) (.node (o_129 P) (.node (boot_o_7 P) (.node (o_51 P) (.node (o_67 P) (.node (o_102 P) .nil .nil) (.node (o_140 P) .nil .nil)) (.node (o_86 P) (.node (o_121 P) .nil .nil) (.node (o_156 P) .nil .nil))) (.node (o_59 P) (.node (o_75 P) (.node (o_131 P) .nil .nil) (.node (o_148 P) .nil .nil)) (.node (o_94 P) (.node (o_132 P) .nil .nil) (.node (o_164 P) .nil .nil)))) (.node (o_43 P) (.node (o_55 P) (.node (o_71 P) (.node (o_106 P) .nil .nil) (.node (o_144 P) .nil .nil)) (.node (o_90 P) (.node (o_125 P) .nil .nil) (.node (o_160 P) .nil .nil))) (.node (o_63 P) (.node (o_79 P) (.node (o_117 P) .nil .nil) (.node (o_152 P) .nil .nil)) (.node (o_98 P) (.node (o_136 P) .nil .nil) .nil)))) (.node (boot_o_5 P) (.node (boot_o_9 P) (.node (o_53 P) (.node (o_69 P) (.node (o_104 P) .nil .nil) (.node (o_142 P) .nil .nil)) (.node (o_88 P) (.node (o_123 P) .nil .nil) (.node (o_158 P) .nil .nil))) (.node (o_61 P) (.node (o_77 P) (.node (o_112 P) .nil .nil) (.node (o_150 P) .nil .nil)) (.node (o_96 P) (.node (o_134 P) .nil .nil) .nil))) (.node (o_45 P) (.node (o_57 P) (.node (o_73 P) (.node (o_108 P) .nil .nil) (.node (o_146 P) .nil .nil)) (.node (o_92 P) (.node (o_127 P) .nil .nil) (.node (o_162 P) .nil .nil))) (.node (o_65 P) (.node (o_81 P) (.node (o_119 P) .nil .nil) (.node (o_154 P) .nil .nil)) (.node (o_100 P) (.node (o_138 P) .nil .nil) .nil))))) (.node (o_83 P) (.node (boot_o_4 P) (.node (boot_o_8 P) (.node (o_52 P) (.node (o_68 P) (.node (o_103 P) .nil .nil) (.node (o_141 P) .nil .nil)) (.node (o_87 P) (.node (o_122 P) .nil .nil) (.node (o_157 P) .nil .nil))) (.node (o_60 P) (.node (o_76 P) (.node (o_111 P) .nil .nil) (.node (o_149 P) .nil .nil)) (.node (o_95 P) (.node (o_133 P) .nil .nil) .nil))) (.node (o_130 P) (.node (o_56 P) (.node (o_72 P) (.node (o_107 P) .nil .nil) (.node (o_145 P) .nil .nil)) (.node (o_91 P) (.node (o_126 P) .nil .nil) (.node (o_161 P) .nil .nil))) (.node (o_64 P) (.node (o_80 P) (.node (o_118 P) .nil .nil) (.node (o_153 P) .nil .nil)) (.node (o_99 P) (.node (o_137 P) .nil .nil) .nil)))) (.node (boot_o_6 P) (.node (boot_o_10 P) (.node (o_54 P) (.node (o_70 P) (.node (o_105 P) .nil .nil) (.node (o_143 P) .nil .nil)) (.node (o_89 P) (.node (o_124 P) .nil .nil) (.node (o_159 P) .nil .nil))) (.node (o_62 P) (.node (o_78 P) (.node (o_113 P) .nil .nil) (.node (o_151 P) .nil .nil)) (.node (o_97 P) (.node (o_135 P) .nil .nil) .nil))) (.node (o_46 P) (.node (o_58 P) (.node (o_74 P) (.node (o_109 P) .nil .nil) (.node (o_147 P) .nil .nil)) (.node (o_93 P) (.node (o_128 P) .nil .nil) (.node (o_163 P) .nil .nil))) (.node (o_66 P) (.node (o_82 P) (.node (o_120 P) .nil .nil) (.node (o_155 P) .nil .nil)) (.node (o_101 P) (.node (o_139 P) .nil .nil) .nil))))))
noncomputable def tree_346 (P : Params) : BT := (.node (boot_o_0 P) (.node (boot_o_1 P) (.node (o_291 P) (.node (boot_o_7 P) (.node (o_51 P) (.node (o_67 P) (.node (o_102 P) (.node (o_174 P) (.node (o_308 P) .nil .nil) .nil) (.node (o_240 P) .nil .nil)) (.node (o_140 P) (.node (o_206 P) (.node (o_340 P) .nil .nil) .nil) (.node (o_272 P) .nil .nil))) (.node (o_86 P) (.node (o_121 P) (.node (o_190 P) (.node (o_324 P) .nil .nil) .nil) (.node (o_256 P) .nil .nil)) (.node (o_156 P) (.node (o_224 P) .nil .nil) (.node (o_288 P) .nil .nil)))) (.node (o_59 P) (.node (o_75 P) (.node (o_131 P) (.node (o_182 P) (.node (o_316 P) .nil .nil) .nil) (.node (o_248 P) .nil .nil)) (.node (o_148 P) (.node (o_214 P) .nil .nil) (.node (o_280 P) .nil .nil))) (.node (o_94 P) (.node (o_132 P) (.node (o_198 P) (.node (o_332 P) .nil .nil) .nil) (.node (o_264 P) .nil .nil)) (.node (o_164 P) (.node (o_232 P) .nil .nil) (.node (o_300 P) .nil .nil))))) (.node (o_43 P) (.node (o_55 P) (.node (o_71 P) (.node (o_106 P) (.node (o_178 P) (.node (o_312 P) .nil .nil) .nil) (.node (o_244 P) .nil .nil)) (.node (o_144 P) (.node (o_210 P) (.node (o_344 P) .nil .nil) .nil) (.node (o_276 P) .nil .nil))) (.node (o_90 P) (.node (o_125 P) (.node (o_194 P) (.node (o_328 P) .nil .nil) .nil) (.node (o_260 P) .nil .nil)) (.node (o_160 P) (.node (o_228 P) .nil .nil) (.node (o_296 P) .nil .nil)))) (.node (o_63 P) (.node (o_79 P) (.node (o_117 P) (.node (o_186 P) (.node (o_320 P) .nil .nil) .nil) (.node (o_252 P) .nil .nil)) (.node (o_152 P) (.node (o_218 P) .nil .nil) (.node (o_284 P) .nil .nil))) (.node (o_98 P) (.node (o_136 P) (.node (o_202 P) (.node (o_336 P) .nil .nil) .nil) (.node (o_268 P) .nil .nil)) (.node (o_170 P) (.node (o_236 P) .nil .nil) (.node (o_304 P) .nil .nil)))))) (.node (boot_o_5 P) (.node (boot_o_9 P) (.node (o_53 P) (.node (o_69 P) (.node (o_104 P) (.node (o_176 P) (.node (o_310 P) .nil .nil) .nil) (.node (o_242 P) .nil .nil)) (.node (o_142 P) (.node (o_208 P) (.node (o_342 P) .nil .nil) .nil) (.node (o_274 P) .nil .nil))) (.node (o_88 P) (.node (o_123 P) (.node (o_192 P) (.node (o_326 P) .nil .nil) .nil) (.node (o_258 P) .nil .nil)) (.node (o_158 P) (.node (o_226 P) .nil .nil) (.node (o_294 P) .nil .nil)))) (.node (o_61 P) (.node (o_77 P) (.node (o_112 P) (.node (o_184 P) (.node (o_318 P) .nil .nil) .nil) (.node (o_250 P) .nil .nil)) (.node (o_150 P) (.node (o_216 P) .nil .nil) (.node (o_282 P) .nil .nil))) (.node (o_96 P) (.node (o_134 P) (.node (o_200 P) (.node (o_334 P) .nil .nil) .nil) (.node (o_266 P) .nil .nil)) (.node (o_168 P) (.node (o_234 P) .nil .nil) (.node (o_302 P) .nil .nil))))) (.node (o_45 P) (.node (o_57 P) (.node (o_73 P) (.node (o_108 P) (.node (o_180 P) (.node (o_314 P) .nil .nil) .nil) (.node (o_246 P) .nil .nil)) (.node (o_146 P) (.node (o_212 P) (.node (o_346 P) .nil .nil) .nil) (.node (o_278 P) .nil .nil))) (.node (o_92 P) (.node (o_127 P) (.node (o_196 P) (.node (o_330 P) .nil .nil) .nil) (.node (o_262 P) .nil .nil)) (.node (o_162 P) (.node (o_230 P) .nil .nil) (.node (o_298 P) .nil .nil)))) (.node (o_65 P) (.node (o_81 P) (.node (o_119 P) (.node (o_188 P) (.node (o_322 P) .nil .nil) .nil) (.node (o_254 P) .nil .nil)) (.node (o_154 P) (.node (o_220 P) .nil .nil) (.node (o_286 P) .nil .nil))) (.node (o_100 P) (.node (o_138 P) (.node (o_204 P) (.node (o_338 P) .nil .nil) .nil) (.node (o_270 P) .nil .nil)) (.node (o_172 P) (.node (o_238 P) .nil .nil) (.node (o_306 P) .nil .nil))))))) (.node (o_83 P) (.node (boot_o_4 P) (.node (boot_o_8 P) (.node (o_52 P) (.node (o_68 P) (.node (o_103 P) (.node (o_175 P) (.node (o_309 P) .nil .nil) .nil) (.node (o_241 P) .nil .nil)) (.node (o_141 P) (.node (o_207 P) (.node (o_341 P) .nil .nil) .nil) (.node (o_273 P) .nil .nil))) (.node (o_87 P) (.node (o_122 P) (.node (o_191 P) (.node (o_325 P) .nil .nil) .nil) (.node (o_257 P) .nil .nil)) (.node (o_157 P) (.node (o_225 P) .nil .nil) (.node (o_293 P) .nil .nil)))) (.node (o_60 P) (.node (o_76 P) (.node (o_111 P) (.node (o_183 P) (.node (o_317 P) .nil .nil) .nil) (.node (o_249 P) .nil .nil)) (.node (o_149 P) (.node (o_215 P) .nil .nil) (.node (o_281 P) .nil .nil))) (.node (o_95 P) (.node (o_133 P) (.node (o_199 P) (.node (o_333 P) .nil .nil) .nil) (.node (o_265 P) .nil .nil)) (.node (o_167 P) (.node (o_233 P) .nil .nil) (.node (o_301 P) .nil .nil))))) (.node (o_292 P) (.node (o_56 P) (.node (o_72 P) (.node (o_107 P) (.node (o_179 P) (.node (o_313 P) .nil .nil) .nil) (.node (o_245 P) .nil .nil)) (.node (o_145 P) (.node (o_211 P) (.node (o_345 P) .nil .nil) .nil) (.node (o_277 P) .nil .nil))) (.node (o_91 P) (.node (o_126 P) (.node (o_195 P) (.node (o_329 P) .nil .nil) .nil) (.node (o_261 P) .nil .nil)) (.node (o_161 P) (.node (o_229 P) .nil .nil) (.node (o_297 P) .nil .nil)))) (.node (o_64 P) (.node (o_80 P) (.node (o_118 P) (.node (o_187 P) (.node (o_321 P) .nil .nil) .nil) (.node (o_253 P) .nil .nil)) (.node (o_153 P) (.node (o_219 P) .nil .nil) (.node (o_285 P) .nil .nil))) (.node (o_99 P) (.node (o_137 P) (.node (o_203 P) (.node (o_337 P) .nil .nil) .nil) (.node (o_269 P) .nil .nil)) (.node (o_171 P) (.node (o_237 P) .nil .nil) (.node (o_305 P) .nil .nil)))))) (.node (boot_o_6 P) (.node (boot_o_10 P) (.node (o_54 P) (.node (o_70 P) (.node (o_105 P) (.node (o_177 P) (.node (o_311 P) .nil .nil) .nil) (.node (o_243 P) .nil .nil)) (.node (o_143 P) (.node (o_209 P) (.node (o_343 P) .nil .nil) .nil) (.node (o_275 P) .nil .nil))) (.node (o_89 P) (.node (o_124 P) (.node (o_193 P) (.node (o_327 P) .nil .nil) .nil) (.node (o_259 P) .nil .nil)) (.node (o_159 P) (.node (o_227 P) .nil .nil) (.node (o_295 P) .nil .nil)))) (.node (o_62 P) (.node (o_78 P) (.node (o_113 P) (.node (o_185 P) (.node (o_319 P) .nil .nil) .nil) (.node (o_251 P) .nil .nil)) (.node (o_151 P) (.node (o_217 P) .nil .nil) (.node (o_283 P) .nil .nil))) (.node (o_97 P) (.node (o_135 P) (.node (o_201 P) (.node (o_335 P) .nil .nil) .nil) (.node (o_267 P) .nil .nil)) (.node (o_169 P) (.node (o_235 P) .nil .nil) (.node (o_303 P) .nil .nil))))) (.node (o_46 P) (.node (o_58 P) (.node (o_74 P) (.node (o_109 P) (.node (o_181 P) (.node (o_315 P) .nil .nil) .nil) (.node (o_247 P) .nil .nil)) (.node (o_147 P) (.node (o_213 P) .nil .nil) (.node (o_279 P) .nil .nil))) (.node (o_93 P) (.node (o_128 P) (.node (o_197 P) (.node (o_331 P) .nil .nil) .nil) (.node (o_263 P) .nil .nil)) (.node (o_163 P) (.node (o_231 P) .nil .nil) (.node (o_299 P) .nil .nil)))) (.node (o_66 P) (.node (o_82 P) (.node (o_120 P) (.node (o_189 P) (.node (o_323 P) .nil .nil) .nil) (.node (o_255 P) .nil .nil)) (.node (o_155 P) (.node (o_223 P) .nil .nil) (.node (o_287 P) .nil .nil))) (.node (o_101 P) (.node (o_139 P) (.node (o_205 P) (.node (o_339 P) .nil .nil) .nil) (.node (o_271 P) .nil .nil)) (.node (o_173 P) (.node (o_239 P) .nil .nil) (.node (o_307 P) .nil .nil))))))))
noncomputable def tree_47 (P : Params) : BT := (.node (boot_o_0 P) (.node (boot_o_1 P) (.node (boot_o_3 P) (.node (boot_o_7 P) .nil .nil) (.node (o_43 P) .nil .nil)) (.node (boot_o_5 P) (.node (boot_o_9 P) .nil .nil) (.node (o_45 P) .nil .nil))) (.node (boot_o_2 P) (.node (boot_o_4 P) (.node (boot_o_8 P) .nil .nil) (.node (o_44 P) .nil .nil)) (.node (boot_o_6 P) (.node (boot_o_10 P) .nil .nil) (.node (o_46 P) .nil .nil))))
noncomputable def tree_409 (P : Params) : BT := (.node (boot_o_0 P) (.node (boot_o_1 P) (.node (o_347 P) (.node (boot_o_7 P) (.node (o_51 P) (.node (o_67 P) (.node (o_102 P) (.node (o_174 P) (.node (o_308 P) .nil .nil) .nil) (.node (o_240 P) (.node (o_374 P) .nil .nil) .nil)) (.node (o_140 P) (.node (o_206 P) (.node (o_340 P) .nil .nil) .nil) (.node (o_272 P) (.node (o_406 P) .nil .nil) .nil))) (.node (o_86 P) (.node (o_121 P) (.node (o_190 P) (.node (o_324 P) .nil .nil) .nil) (.node (o_256 P) (.node (o_390 P) .nil .nil) .nil)) (.node (o_156 P) (.node (o_224 P) (.node (o_358 P) .nil .nil) .nil) (.node (o_288 P) .nil .nil)))) (.node (o_59 P) (.node (o_75 P) (.node (o_131 P) (.node (o_182 P) (.node (o_316 P) .nil .nil) .nil) (.node (o_248 P) (.node (o_382 P) .nil .nil) .nil)) (.node (o_148 P) (.node (o_214 P) (.node (o_350 P) .nil .nil) .nil) (.node (o_280 P) .nil .nil))) (.node (o_94 P) (.node (o_132 P) (.node (o_198 P) (.node (o_332 P) .nil .nil) .nil) (.node (o_264 P) (.node (o_398 P) .nil .nil) .nil)) (.node (o_164 P) (.node (o_232 P) (.node (o_366 P) .nil .nil) .nil) (.node (o_300 P) .nil .nil))))) (.node (o_43 P) (.node (o_55 P) (.node (o_71 P) (.node (o_106 P) (.node (o_178 P) (.node (o_312 P) .nil .nil) .nil) (.node (o_244 P) (.node (o_378 P) .nil .nil) .nil)) (.node (o_144 P) (.node (o_210 P) (.node (o_344 P) .nil .nil) .nil) (.node (o_276 P) .nil .nil))) (.node (o_90 P) (.node (o_125 P) (.node (o_194 P) (.node (o_328 P) .nil .nil) .nil) (.node (o_260 P) (.node (o_394 P) .nil .nil) .nil)) (.node (o_160 P) (.node (o_228 P) (.node (o_362 P) .nil .nil) .nil) (.node (o_296 P) .nil .nil)))) (.node (o_63 P) (.node (o_79 P) (.node (o_117 P) (.node (o_186 P) (.node (o_320 P) .nil .nil) .nil) (.node (o_252 P) (.node (o_386 P) .nil .nil) .nil)) (.node (o_152 P) (.node (o_218 P) (.node (o_354 P) .nil .nil) .nil) (.node (o_284 P) .nil .nil))) (.node (o_98 P) (.node (o_136 P) (.node (o_202 P) (.node (o_336 P) .nil .nil) .nil) (.node (o_268 P) (.node (o_402 P) .nil .nil) .nil)) (.node (o_170 P) (.node (o_236 P) (.node (o_370 P) .nil .nil) .nil) (.node (o_304 P) .nil .nil)))))) (.node (boot_o_5 P) (.node (boot_o_9 P) (.node (o_53 P) (.node (o_69 P) (.node (o_104 P) (.node (o_176 P) (.node (o_310 P) .nil .nil) .nil) (.node (o_242 P) (.node (o_376 P) .nil .nil) .nil)) (.node (o_142 P) (.node (o_208 P) (.node (o_342 P) .nil .nil) .nil) (.node (o_274 P) (.node (o_408 P) .nil .nil) .nil))) (.node (o_88 P) (.node (o_123 P) (.node (o_192 P) (.node (o_326 P) .nil .nil) .nil) (.node (o_258 P) (.node (o_392 P) .nil .nil) .nil)) (.node (o_158 P) (.node (o_226 P) (.node (o_360 P) .nil .nil) .nil) (.node (o_294 P) .nil .nil)))) (.node (o_61 P) (.node (o_77 P) (.node (o_112 P) (.node (o_184 P) (.node (o_318 P) .nil .nil) .nil) (.node (o_250 P) (.node (o_384 P) .nil .nil) .nil)) (.node (o_150 P) (.node (o_216 P) (.node (o_352 P) .nil .nil) .nil) (.node (o_282 P) .nil .nil))) (.node (o_96 P) (.node (o_134 P) (.node (o_200 P) (.node (o_334 P) .nil .nil) .nil) (.node (o_266 P) (.node (o_400 P) .nil .nil) .nil)) (.node (o_168 P) (.node (o_234 P) (.node (o_368 P) .nil .nil) .nil) (.node (o_302 P) .nil .nil))))) (.node (o_45 P) (.node (o_57 P) (.node (o_73 P) (.node (o_108 P) (.node (o_180 P) (.node (o_314 P) .nil .nil) .nil) (.node (o_246 P) (.node (o_380 P) .nil .nil) .nil)) (.node (o_146 P) (.node (o_212 P) (.node (o_346 P) .nil .nil) .nil) (.node (o_278 P) .nil .nil))) (.node (o_92 P) (.node (o_127 P) (.node (o_196 P) (.node (o_330 P) .nil .nil) .nil) (.node (o_262 P) (.node (o_396 P) .nil .nil) .nil)) (.node (o_162 P) (.node (o_230 P) (.node (o_364 P) .nil .nil) .nil) (.node (o_298 P) .nil .nil)))) (.node (o_65 P) (.node (o_81 P) (.node (o_119 P) (.node (o_188 P) (.node (o_322 P) .nil .nil) .nil) (.node (o_254 P) (.node (o_388 P) .nil .nil) .nil)) (.node (o_154 P) (.node (o_220 P) (.node (o_356 P) .nil .nil) .nil) (.node (o_286 P) .nil .nil))) (.node (o_100 P) (.node (o_138 P) (.node (o_204 P) (.node (o_338 P) .nil .nil) .nil) (.node (o_270 P) (.node (o_404 P) .nil .nil) .nil)) (.node (o_172 P) (.node (o_238 P) (.node (o_372 P) .nil .nil) .nil) (.node (o_306 P) .nil .nil))))))) (.node (o_83 P) (.node (boot_o_4 P) (.node (boot_o_8 P) (.node (o_52 P) (.node (o_68 P) (.node (o_103 P) (.node (o_175 P) (.node (o_309 P) .nil .nil) .nil) (.node (o_241 P) (.node (o_375 P) .nil .nil) .nil)) (.node (o_141 P) (.node (o_207 P) (.node (o_341 P) .nil .nil) .nil) (.node (o_273 P) (.node (o_407 P) .nil .nil) .nil))) (.node (o_87 P) (.node (o_122 P) (.node (o_191 P) (.node (o_325 P) .nil .nil) .nil) (.node (o_257 P) (.node (o_391 P) .nil .nil) .nil)) (.node (o_157 P) (.node (o_225 P) (.node (o_359 P) .nil .nil) .nil) (.node (o_293 P) .nil .nil)))) (.node (o_60 P) (.node (o_76 P) (.node (o_111 P) (.node (o_183 P) (.node (o_317 P) .nil .nil) .nil) (.node (o_249 P) (.node (o_383 P) .nil .nil) .nil)) (.node (o_149 P) (.node (o_215 P) (.node (o_351 P) .nil .nil) .nil) (.node (o_281 P) .nil .nil))) (.node (o_95 P) (.node (o_133 P) (.node (o_199 P) (.node (o_333 P) .nil .nil) .nil) (.node (o_265 P) (.node (o_399 P) .nil .nil) .nil)) (.node (o_167 P) (.node (o_233 P) (.node (o_367 P) .nil .nil) .nil) (.node (o_301 P) .nil .nil))))) (.node (o_348 P) (.node (o_56 P) (.node (o_72 P) (.node (o_107 P) (.node (o_179 P) (.node (o_313 P) .nil .nil) .nil) (.node (o_245 P) (.node (o_379 P) .nil .nil) .nil)) (.node (o_145 P) (.node (o_211 P) (.node (o_345 P) .nil .nil) .nil) (.node (o_277 P) .nil .nil))) (.node (o_91 P) (.node (o_126 P) (.node (o_195 P) (.node (o_329 P) .nil .nil) .nil) (.node (o_261 P) (.node (o_395 P) .nil .nil) .nil)) (.node (o_161 P) (.node (o_229 P) (.node (o_363 P) .nil .nil) .nil) (.node (o_297 P) .nil .nil)))) (.node (o_64 P) (.node (o_80 P) (.node (o_118 P) (.node (o_187 P) (.node (o_321 P) .nil .nil) .nil) (.node (o_253 P) (.node (o_387 P) .nil .nil) .nil)) (.node (o_153 P) (.node (o_219 P) (.node (o_355 P) .nil .nil) .nil) (.node (o_285 P) .nil .nil))) (.node (o_99 P) (.node (o_137 P) (.node (o_203 P) (.node (o_337 P) .nil .nil) .nil) (.node (o_269 P) (.node (o_403 P) .nil .nil) .nil)) (.node (o_171 P) (.node (o_237 P) (.node (o_371 P) .nil .nil) .nil) (.node (o_305 P) .nil .nil)))))) (.node (boot_o_6 P) (.node (boot_o_10 P) (.node (o_54 P) (.node (o_70 P) (.node (o_105 P) (.node (o_177 P) (.node (o_311 P) .nil .nil) .nil) (.node (o_243 P) (.node (o_377 P) .nil .nil) .nil)) (.node (o_143 P) (.node (o_209 P) (.node (o_343 P) .nil .nil) .nil) (.node (o_275 P) (.node (o_409 P) .nil .nil) .nil))) (.node (o_89 P) (.node (o_124 P) (.node (o_193 P) (.node (o_327 P) .nil .nil) .nil) (.node (o_259 P) (.node (o_393 P) .nil .nil) .nil)) (.node (o_159 P) (.node (o_227 P) (.node (o_361 P) .nil .nil) .nil) (.node (o_295 P) .nil .nil)))) (.node (o_62 P) (.node (o_78 P) (.node (o_113 P) (.node (o_185 P) (.node (o_319 P) .nil .nil) .nil) (.node (o_251 P) (.node (o_385 P) .nil .nil) .nil)) (.node (o_151 P) (.node (o_217 P) (.node (o_353 P) .nil .nil) .nil) (.node (o_283 P) .nil .nil))) (.node (o_97 P) (.node (o_135 P) (.node (o_201 P) (.node (o_335 P) .nil .nil) .nil) (.node (o_267 P) (.node (o_401 P) .nil .nil) .nil)) (.node (o_169 P) (.node (o_235 P) (.node (o_369 P) .nil .nil) .nil) (.node (o_303 P) .nil .nil))))) (.node (o_46 P) (.node (o_58 P) (.node (o_74 P) (.node (o_109 P) (.node (o_181 P) (.node (o_315 P) .nil .nil) .nil) (.node (o_247 P) (.node (o_381 P) .nil .nil) .nil)) (.node (o_147 P) (.node (o_213 P) (.node (o_349 P) .nil .nil) .nil) (.node (o_279 P) .nil .nil))) (.node (o_93 P) (.node (o_128 P) (.node (o_197 P) (.node (o_331 P) .nil .nil) .nil) (.node (o_263 P) (.node (o_397 P) .nil .nil) .nil)) (.node (o_163 P) (.node (o_231 P) (.node (o_365 P) .nil .nil) .nil) (.node (o_299 P) .nil .nil)))) (.node (o_66 P) (.node (o_82 P) (.node (o_120 P) (.node (o_189 P) (.node (o_323 P) .nil .nil) .nil) (.node (o_255 P) (.node (o_389 P) .nil .nil) .nil)) (.node (o_155 P) (.node (o_223 P) (.node (o_357 P) .nil .nil) .nil) (.node (o_287 P) .nil .nil))) (.node (o_101 P) (.node (o_139 P) (.node (o_205 P) (.node (o_339 P) .nil .nil) .nil) (.node (o_271 P) (.node (o_405 P) .nil .nil) .nil)) (.node (o_173 P) (.node (o_239 P) (.node (o_373 P) .nil .nil) .nil) (.node (o_307 P) .nil .nil))))))))
theorem g_0 : ∀ (w : World) (os : OsState), segRunT treeTable PG w 11 (some (.ref 6)) 1 191 ⟨tree_47 w.params, 15, {}, #[], {}, 187, os⟩ (piecesOf (sts 0 10) e41 cE ⟨0, 0, 0, 0⟩ B0) = some (.next, ⟨tree_82 w.params, 47, {}, #[], {}, 235, os⟩, cE, ⟨25, 0, 25, 8⟩) := fun w os => by
  rw [PySem.W.Fast.te10110043849684766642, PySem.W.Fast.te14364793385576792824]; kernel_rfl
theorem g_1 : ∀ (w : World) (os : OsState), segRunT treeTable PG w 11 (some (.ref 6)) 1 269 ⟨tree_82 w.params, 47, {}, #[], {}, 235, os⟩ (piecesOf (sts 10 1) e41 cE ⟨25, 0, 25, 8⟩ B0) = some (.next, ⟨tree_113 w.params, 75, {}, #[], {}, 275, os⟩, cE, ⟨26, 0, 34, 35⟩) := fun w os => by
  rw [PySem.W.Fast.te10110043849684766642, PySem.W.Fast.te14364793385576792824]; kernel_rfl
theorem g_2 : ∀ (w : World) (os : OsState), segRunT treeTable PG w 11 (some (.ref 6)) 1 214 ⟨tree_113 w.params, 75, {}, #[], {}, 275, os⟩ (piecesOf (sts 11 1) e41 cE ⟨26, 0, 34, 35⟩ B0) = some (.next, ⟨tree_128 w.params, 87, {}, #[], {}, 291, os⟩, cE, ⟨35, 0, 36, 8⟩) := fun w os => by
  rw [PySem.W.Fast.te10110043849684766642, PySem.W.Fast.te14364793385576792824]; kernel_rfl
theorem g_3 : ∀ (w : World) (os : OsState), segRunT treeTable PG w 11 (some (.ref 6)) 1 361 ⟨tree_128 w.params, 87, {}, #[], {}, 291, os⟩ (piecesOf (sts 12 9) e41 cE ⟨35, 0, 36, 8⟩ B0) = some (.next, ⟨tree_164 w.params, 120, {}, #[], {}, 348, os⟩, cE, ⟨60, 0, 60, 5⟩) := fun w os => by
  rw [PySem.W.Fast.te10110043849684766642, PySem.W.Fast.te14364793385576792824]; kernel_rfl
theorem g_4 : ∀ (w : World) (os : OsState), segRunT treeTable PG w 11 (some (.ref 6)) 1 379 ⟨tree_164 w.params, 120, {}, #[], {}, 348, os⟩ (piecesOf (sts 21 4) e41 cE ⟨60, 0, 60, 5⟩ B0) = some (.next, ⟨tree_220 w.params, 174, {}, #[], {}, 421, os⟩, cE, ⟨84, 0, 92, 18⟩) := fun w os => by
  rw [PySem.W.Fast.te10110043849684766642, PySem.W.Fast.te14364793385576792824]; kernel_rfl
theorem g_5 : ∀ (w : World) (os : OsState), segRunT treeTable PG w 11 (some (.ref 6)) 1 396 ⟨tree_220 w.params, 174, {}, #[], {}, 421, os⟩ (piecesOf (sts 25 20) e41 cE ⟨84, 0, 92, 18⟩ B0) = some (.next, ⟨tree_288 w.params, 240, {}, #[], {}, 522, os⟩, cE, ⟨161, 0, 161, 6⟩) := fun w os => by
  rw [PySem.W.Fast.te10110043849684766642, PySem.W.Fast.te14364793385576792824]; kernel_rfl
theorem g_6 : ∀ (w : World) (os : OsState), segRunT treeTable PG w 11 (some (.ref 6)) 1 55 ⟨tree_288 w.params, 240, {}, #[], {}, 522, os⟩ (piecesOf (sts 45 6) e41 cE ⟨161, 0, 161, 6⟩ B0) = some (.next, ⟨tree_289 w.params, 240, {}, #[], {}, 534, os⟩, cE, ⟨167, 0, 167, 4⟩) := fun w os => by
  rw [PySem.W.Fast.te10110043849684766642, PySem.W.Fast.te14364793385576792824]; kernel_rfl
theorem g_7 : ∀ (w : World) (os : OsState), segRunT treeTable PG w 11 (some (.ref 6)) 1 377 ⟨tree_289 w.params, 240, {}, #[], {}, 534, os⟩ (piecesOf (sts 51 2) e41 cE ⟨167, 0, 167, 4⟩ B0) = some (.next, ⟨tree_346 w.params, 294, {}, #[], {}, 601, os⟩, cE, ⟨186, 0, 187, 49⟩) := fun w os => by
  rw [PySem.W.Fast.te10110043849684766642, PySem.W.Fast.te14364793385576792824]; kernel_rfl
theorem g_8 : ∀ (w : World) (os : OsState), segRunT treeTable PG w 11 (some (.ref 6)) 1 374 ⟨tree_346 w.params, 294, {}, #[], {}, 601, os⟩ (piecesOf (sts 53 19) e41 cE ⟨186, 0, 187, 49⟩ B0) = some (.next, ⟨tree_409 w.params, 355, {}, #[], {}, 690, os⟩, cE, ⟨259, 0, 260, 59⟩) := fun w os => by
  rw [PySem.W.Fast.te10110043849684766642, PySem.W.Fast.te14364793385576792824]; kernel_rfl
theorem g_9 : ∀ (w : World) (os : OsState), segRunT treeTable PG w 11 (some (.ref 6)) 1 297 ⟨tree_409 w.params, 355, {}, #[], {}, 690, os⟩ (piecesOf (sts 72 13) e41 cE ⟨259, 0, 260, 59⟩ B0) = some (.next, ⟨tree_467 w.params, 411, {}, #[], {}, 772, os⟩, cE, ⟨306, 0, 307, 79⟩) := fun w os => by
  rw [PySem.W.Fast.te10110043849684766642, PySem.W.Fast.te14364793385576792824]; kernel_rfl
theorem g_10 : ∀ (w : World) (os : OsState), segRunT treeTable PG w 11 (some (.ref 6)) 1 292 ⟨tree_467 w.params, 411, {}, #[], {}, 772, os⟩ (piecesOf (sts 85 1) e41 cE ⟨306, 0, 307, 79⟩ B0) = some (.next, ⟨tree_506 w.params, 448, {}, #[], {}, 819, os⟩, cE, ⟨308, 0, 319, 16⟩) := fun w os => by
  rw [PySem.W.Fast.te10110043849684766642, PySem.W.Fast.te14364793385576792824]; kernel_rfl
theorem g_11 : ∀ (w : World) (os : OsState), segRunT treeTable PG w 11 (some (.ref 6)) 1 286 ⟨tree_506 w.params, 448, {}, #[], {}, 819, os⟩ (piecesOf (sts 86 1) e41 cE ⟨308, 0, 319, 16⟩ B0) = some (.next, ⟨tree_541 w.params, 481, {}, #[], {}, 864, os⟩, cE, ⟨320, 0, 331, 70⟩) := fun w os => by
  rw [PySem.W.Fast.te10110043849684766642, PySem.W.Fast.te14364793385576792824]; kernel_rfl
theorem g_12 : ∀ (w : World) (os : OsState), segRunT treeTable PG w 11 (some (.ref 6)) 1 378 ⟨tree_541 w.params, 481, {}, #[], {}, 864, os⟩ (piecesOf (sts 87 4) e41 cE ⟨320, 0, 331, 70⟩ B0) = some (.next, ⟨tree_599 w.params, 537, {}, #[], {}, 933, os⟩, cE, ⟨356, 0, 359, 88⟩) := fun w os => by
  rw [PySem.W.Fast.te10110043849684766642, PySem.W.Fast.te14364793385576792824]; kernel_rfl
theorem g_13_false : ∀ (w : World) (os : OsState), segRunT treeTable PG (w.withFollow "special-get-raises" false) 11 (some (.ref 6)) 1 372 ⟨tree_599 (w.withFollow "special-get-raises" false).params, 537, {}, #[], {}, 933, os⟩ (piecesOf (sts 91 13) e41 cE ⟨356, 0, 359, 88⟩ B0) = some (.next, ⟨tree_671 (w.withFollow "special-get-raises" false).params, 607, {}, #[], {}, 1029, os⟩, cE, ⟨406, 0, 406, 11⟩) := fun w os => by
  rw [PySem.W.Fast.te10110043849684766642, PySem.W.Fast.te14364793385576792824]; kernel_rfl
theorem g_13_true : ∀ (w : World) (os : OsState), segRunT treeTable PG (w.withFollow "special-get-raises" true) 11 (some (.ref 6)) 1 372 ⟨tree_599 (w.withFollow "special-get-raises" true).params, 537, {}, #[], {}, 933, os⟩ (piecesOf (sts 91 13) e41 cE ⟨356, 0, 359, 88⟩ B0) = some (.next, ⟨tree_671 (w.withFollow "special-get-raises" true).params, 607, {}, #[], {}, 1029, os⟩, cE, ⟨406, 0, 406, 11⟩) := fun w os => by
  rw [PySem.W.Fast.te10110043849684766642, PySem.W.Fast.te14364793385576792824]; kernel_rfl
theorem g_13 : ∀ (w : World) (os : OsState), segRunT treeTable PG w 11 (some (.ref 6)) 1 372 ⟨tree_599 w.params, 537, {}, #[], {}, 933, os⟩ (piecesOf (sts 91 13) e41 cE ⟨356, 0, 359, 88⟩ B0) = some (.next, ⟨tree_671 w.params, 607, {}, #[], {}, 1029, os⟩, cE, ⟨406, 0, 406, 11⟩) := fun w => byRow2 "special-get-raises" (P := fun w => ∀ os : OsState, segRunT treeTable PG w 11 (some (.ref 6)) 1 372 ⟨tree_599 w.params, 537, {}, #[], {}, 933, os⟩ (piecesOf (sts 91 13) e41 cE ⟨356, 0, 359, 88⟩ B0) = some (.next, ⟨tree_671 w.params, 607, {}, #[], {}, 1029, os⟩, cE, ⟨406, 0, 406, 11⟩)) g_13_false g_13_true w
theorem g_14 : ∀ (w : World) (os : OsState), segRunT treeTable PG w 11 (some (.ref 6)) 1 218 ⟨tree_671 w.params, 607, {}, #[], {}, 1029, os⟩ (piecesOf (sts 104 7) e41 cE ⟨406, 0, 406, 11⟩ B0) = some (.next, ⟨tree_720 w.params, 652, {}, #[], {}, 1096, os⟩, cE, ⟨444, 0, 447, 36⟩) := fun w os => by
  rw [PySem.W.Fast.te10110043849684766642, PySem.W.Fast.te14364793385576792824]; kernel_rfl
theorem g_pre : ∀ (w : World) (os : OsState), topGo treeTable PG w 11 (some (.ref 6)) 12 ⟨boot_heap w.params, #[], boot_drawn, boot_toks, os⟩ (topStub PG) = some (⟨heap_46 w.params, #[], {}, 187, os⟩, ⟨denote treeTable cE, cE, ⟨0, 0, 0, 0⟩, B0⟩) := fun w os => by
  rw [PySem.W.Fast.te15667345088766844465, PySem.W.Fast.te11892475500146522536, PySem.W.Fast.te14364793385576792824]; kernel_rfl
theorem g_block : ∀ (w : World) (os : OsState), segRun treeTable PG w 11 (some (.ref 6)) 1 1 ⟨heap_46 w.params, #[], {}, 187, os⟩ (blockOf (behindTheImports PG) e41 cE ⟨0, 0, 0, 0⟩ B0) = some (.next, SharedT.abs ⟨tree_47 w.params, 15, {}, #[], {}, 187, os⟩, cE, ⟨0, 0, 0, 0⟩) := fun w os => by
  rw [PySem.W.Fast.te14374325043358763698, PySem.W.Fast.te14364793385576792824]; kernel_rfl
theorem g_fin : ∀ (w : World) (os : OsState), topRun treeTable PG w 11 (some (.ref 6)) 2 (SharedT.abs ⟨tree_720 w.params, 652, {}, #[], {}, 1096, os⟩) ⟨doneF .next, cE, ⟨444, 0, 447, 36⟩, B0⟩ = some ⟨heap_721 w.params, #[], {}, 1096, os⟩ := fun w os => by
  rw [PySem.W.Fast.te14082659384304107361, PySem.W.Fast.te14364793385576792824]; kernel_rfl
theorem body_parts : behindTheImports PG = sts 0 10 ++ (sts 10 1 ++ (sts 11 1 ++ (sts 12 9 ++ (sts 21 4 ++ (sts 25 20 ++ (sts 45 6 ++ (sts 51 2 ++ (sts 53 19 ++ (sts 72 13 ++ (sts 85 1 ++ (sts 86 1 ++ (sts 87 4 ++ (sts 91 13 ++ (sts 104 7 ++ ([] : List Stmt))))))))))))))) := by kernel_rfl
theorem g_run : ∀ (w : World) (os : OsState), topRun treeTable PG w 11 (some (.ref 6)) (12 + (1 + (191 + (269 + (214 + (361 + (379 + (396 + (55 + (377 + (374 + (297 + (292 + (286 + (378 + (372 + (218 + (2)))))))))))))))))) ⟨boot_heap w.params, #[], boot_drawn, boot_toks, os⟩ (topStub PG) = some ⟨heap_721 w.params, #[], {}, 1096, os⟩ := fun w os =>
  go_top (g_pre w os) (piece_block (g_block w os) (by
    rw [body_parts]
    exact (piece_app (segRun_of (g_0 w os)) (piece_app (segRun_of (g_1 w os)) (piece_app (segRun_of (g_2 w os)) (piece_app (segRun_of (g_3 w os)) (piece_app (segRun_of (g_4 w os)) (piece_app (segRun_of (g_5 w os)) (piece_app (segRun_of (g_6 w os)) (piece_app (segRun_of (g_7 w os)) (piece_app (segRun_of (g_8 w os)) (piece_app (segRun_of (g_9 w os)) (piece_app (segRun_of (g_10 w os)) (piece_app (segRun_of (g_11 w os)) (piece_app (segRun_of (g_12 w os)) (piece_app (segRun_of (g_13 w os)) (piece_app (segRun_of (g_14 w os)) (g_fin w os))))))))))))))))))
noncomputable def K (P : Params) : Frag := [
  (2, o_83 P),
  (3, o_674 P),
  (15, o_717 P),
  (18, o_54 P),
  (19, o_55 P),
  (20, o_717 P),
  (22, o_58 P),
  (23, o_717 P),
  (25, o_61 P),
  (26, o_62 P),
  (27, o_717 P),
  (29, o_65 P),
  (30, o_717 P),
  (32, o_68 P),
  (33, o_69 P),
  (34, o_717 P),
  (37, o_73 P),
  (38, o_74 P),
  (39, o_75 P),
  (40, o_717 P),
  (42, o_78 P),
  (43, o_717 P),
  (45, o_81 P),
  (46, o_82 P),
  (47, o_86 P),
  (54, o_93 P),
  (55, o_717 P),
  (57, o_96 P),
  (58, o_717 P),
  (60, o_99 P),
  (61, o_100 P),
  (62, o_717 P),
  (64, o_103 P),
  (65, o_717 P),
  (67, o_106 P),
  (68, o_107 P),
  (69, o_108 P),
  (70, o_109 P),
  (71, o_131 P),
  (72, o_111 P),
  (75, o_132 P),
  (82, o_717 P),
  (83, o_125 P),
  (84, o_126 P),
  (87, o_132 P),
  (94, o_717 P),
  (95, o_140 P),
  (96, o_141 P),
  (99, o_717 P),
  (101, o_146 P),
  (102, o_717 P),
  (104, o_149 P),
  (105, o_150 P),
  (106, o_717 P),
  (109, o_154 P),
  (110, o_155 P),
  (111, o_156 P),
  (112, o_717 P),
  (114, o_159 P),
  (115, o_717 P),
  (117, o_162 P),
  (118, o_163 P),
  (119, o_164 P),
  (127, o_717 P),
  (129, o_176 P),
  (130, o_717 P),
  (132, o_179 P),
  (133, o_180 P),
  (134, o_717 P),
  (137, o_184 P),
  (138, o_185 P),
  (139, o_717 P),
  (141, o_188 P),
  (142, o_717 P),
  (144, o_191 P),
  (145, o_192 P),
  (146, o_193 P),
  (147, o_194 P),
  (148, o_195 P),
  (149, o_196 P),
  (150, o_197 P),
  (153, o_717 P),
  (155, o_202 P),
  (156, o_717 P),
  (158, o_205 P),
  (159, o_206 P),
  (160, o_717 P),
  (162, o_209 P),
  (163, o_717 P),
  (165, o_212 P),
  (166, o_213 P),
  (167, o_717 P),
  (169, o_216 P),
  (170, o_717 P),
  (172, o_219 P),
  (173, o_220 P),
  (174, o_717 P),
  (176, o_225 P),
  (177, o_717 P),
  (179, o_228 P),
  (180, o_229 P),
  (181, o_717 P),
  (184, o_233 P),
  (185, o_234 P),
  (186, o_717 P),
  (188, o_237 P),
  (189, o_717 P),
  (191, o_240 P),
  (192, o_241 P),
  (193, o_717 P),
  (196, o_245 P),
  (197, o_246 P),
  (198, o_247 P),
  (199, o_717 P),
  (201, o_250 P),
  (202, o_717 P),
  (204, o_253 P),
  (205, o_254 P),
  (206, o_717 P),
  (209, o_258 P),
  (210, o_259 P),
  (211, o_717 P),
  (213, o_262 P),
  (214, o_717 P),
  (216, o_265 P),
  (217, o_266 P),
  (218, o_717 P),
  (220, o_269 P),
  (221, o_717 P),
  (223, o_272 P),
  (224, o_273 P),
  (225, o_717 P),
  (227, o_276 P),
  (228, o_717 P),
  (230, o_279 P),
  (231, o_280 P),
  (232, o_281 P),
  (233, o_717 P),
  (235, o_284 P),
  (236, o_717 P),
  (238, o_287 P),
  (239, o_288 P),
  (247, o_717 P),
  (249, o_302 P),
  (250, o_717 P),
  (252, o_305 P),
  (253, o_306 P),
  (254, o_717 P),
  (257, o_310 P),
  (258, o_311 P),
  (259, o_717 P),
  (261, o_314 P),
  (262, o_717 P),
  (264, o_317 P),
  (265, o_318 P),
  (266, o_717 P),
  (268, o_321 P),
  (269, o_717 P),
  (271, o_324 P),
  (272, o_325 P),
  (273, o_717 P),
  (275, o_328 P),
  (276, o_717 P),
  (278, o_331 P),
  (279, o_332 P),
  (280, o_333 P),
  (281, o_334 P),
  (282, o_335 P),
  (283, o_336 P),
  (284, o_337 P),
  (287, o_717 P),
  (289, o_342 P),
  (290, o_717 P),
  (292, o_345 P),
  (293, o_346 P),
  (294, o_717 P),
  (297, o_352 P),
  (298, o_353 P),
  (299, o_717 P),
  (302, o_357 P),
  (303, o_358 P),
  (304, o_717 P),
  (306, o_361 P),
  (307, o_717 P),
  (309, o_364 P),
  (310, o_365 P),
  (311, o_717 P),
  (313, o_368 P),
  (314, o_717 P),
  (316, o_371 P),
  (317, o_372 P),
  (318, o_717 P),
  (321, o_376 P),
  (322, o_377 P),
  (323, o_717 P),
  (326, o_381 P),
  (327, o_382 P),
  (328, o_717 P),
  (331, o_386 P),
  (332, o_387 P),
  (333, o_717 P),
  (336, o_391 P),
  (337, o_392 P),
  (338, o_717 P),
  (341, o_396 P),
  (342, o_397 P),
  (343, o_717 P),
  (346, o_401 P),
  (347, o_402 P),
  (348, o_717 P),
  (350, o_405 P),
  (351, o_717 P),
  (353, o_408 P),
  (354, o_409 P),
  (355, o_717 P),
  (357, o_414 P),
  (358, o_717 P),
  (360, o_417 P),
  (361, o_418 P),
  (362, o_717 P),
  (364, o_421 P),
  (365, o_717 P),
  (367, o_424 P),
  (368, o_425 P),
  (369, o_717 P),
  (371, o_428 P),
  (372, o_717 P),
  (374, o_431 P),
  (375, o_432 P),
  (376, o_717 P),
  (378, o_435 P),
  (379, o_717 P),
  (381, o_438 P),
  (382, o_439 P),
  (383, o_440 P),
  (384, o_717 P),
  (386, o_443 P),
  (387, o_717 P),
  (389, o_446 P),
  (390, o_447 P),
  (391, o_717 P),
  (393, o_450 P),
  (394, o_717 P),
  (396, o_453 P),
  (397, o_454 P),
  (398, o_455 P),
  (399, o_717 P),
  (402, o_459 P),
  (403, o_460 P),
  (404, o_717 P),
  (406, o_463 P),
  (407, o_717 P),
  (409, o_466 P),
  (410, o_467 P),
  (418, o_717 P),
  (419, o_478 P),
  (420, o_717 P),
  (422, o_481 P),
  (423, o_717 P),
  (425, o_484 P),
  (426, o_485 P),
  (427, o_717 P),
  (429, o_488 P),
  (430, o_717 P),
  (432, o_491 P),
  (433, o_492 P),
  (434, o_717 P),
  (436, o_495 P),
  (437, o_717 P),
  (439, o_498 P),
  (440, o_499 P),
  (441, o_500 P),
  (442, o_501 P),
  (443, o_502 P),
  (444, o_503 P),
  (445, o_504 P),
  (455, o_717 P),
  (456, o_517 P),
  (457, o_717 P),
  (459, o_520 P),
  (460, o_717 P),
  (462, o_523 P),
  (463, o_524 P),
  (464, o_717 P),
  (467, o_528 P),
  (468, o_529 P),
  (469, o_717 P),
  (472, o_533 P),
  (473, o_534 P),
  (474, o_535 P),
  (475, o_536 P),
  (476, o_537 P),
  (477, o_538 P),
  (478, o_539 P),
  (488, o_717 P),
  (489, o_552 P),
  (490, o_717 P),
  (492, o_555 P),
  (493, o_717 P),
  (495, o_558 P),
  (496, o_559 P),
  (497, o_717 P),
  (499, o_562 P),
  (500, o_717 P),
  (502, o_565 P),
  (503, o_566 P),
  (504, o_717 P),
  (506, o_569 P),
  (507, o_717 P),
  (509, o_572 P),
  (510, o_573 P),
  (511, o_574 P),
  (512, o_575 P),
  (513, o_576 P),
  (514, o_577 P),
  (515, o_578 P),
  (518, o_717 P),
  (521, o_584 P),
  (522, o_585 P),
  (523, o_717 P),
  (525, o_588 P),
  (526, o_717 P),
  (528, o_591 P),
  (529, o_592 P),
  (530, o_717 P),
  (532, o_595 P),
  (533, o_717 P),
  (535, o_598 P),
  (536, o_599 P),
  (537, o_717 P),
  (540, o_605 P),
  (541, o_606 P),
  (542, o_717 P),
  (545, o_610 P),
  (546, o_611 P),
  (547, o_717 P),
  (549, o_614 P),
  (550, o_717 P),
  (552, o_617 P),
  (553, o_618 P),
  (554, o_717 P),
  (557, o_622 P),
  (558, o_623 P),
  (559, o_717 P),
  (561, o_626 P),
  (562, o_717 P),
  (564, o_629 P),
  (565, o_630 P),
  (566, o_717 P),
  (569, o_634 P),
  (570, o_635 P),
  (571, o_717 P),
  (574, o_639 P),
  (575, o_640 P),
  (576, o_717 P),
  (578, o_643 P),
  (579, o_717 P),
  (581, o_646 P),
  (582, o_647 P),
  (583, o_717 P),
  (585, o_650 P),
  (586, o_717 P),
  (588, o_653 P),
  (589, o_654 P),
  (590, o_717 P),
  (592, o_657 P),
  (593, o_717 P),
  (595, o_660 P),
  (596, o_661 P),
  (597, o_664 P),
  (598, o_663 P),
  (599, o_664 P),
  (600, o_665 P),
  (601, o_666 P),
  (602, o_667 P),
  (603, o_668 P),
  (604, o_669 P),
  (605, o_670 P),
  (606, o_671 P),
  (607, o_717 P),
  (609, o_678 P),
  (610, o_717 P),
  (612, o_681 P),
  (613, o_682 P),
  (614, o_717 P),
  (616, o_685 P),
  (617, o_717 P),
  (619, o_688 P),
  (620, o_689 P),
  (621, o_717 P),
  (623, o_692 P),
  (624, o_717 P),
  (626, o_695 P),
  (627, o_696 P),
  (628, o_717 P),
  (630, o_699 P),
  (631, o_717 P),
  (633, o_702 P),
  (634, o_703 P),
  (635, o_717 P),
  (638, o_707 P),
  (639, o_708 P),
  (640, o_717 P),
  (643, o_712 P),
  (644, o_713 P),
  (645, o_717 P),
  (647, o_716 P),
  (648, o_717 P),
  (650, o_719 P),
  (651, o_720 P)]
noncomputable def vw : Program := { PG with main := { PG.main with body := [stm 110] } }
noncomputable def loose : List Str := [s_SIGNS, s_PAD, s_LINE_END, s_group_codes, s_part_encoded, s_one_line, s_in_lines, s_encoded, s_PostError, s_WordFault, s_MimeFault, s_CRLF, s_RETURN, s_lower_code, s_lower_text, s_line_spans, s_WHITE, s_Field, s_line_at, s_is_name, s_rows_of, s_unfolded, s_without_words, s_is_sound, s_write_fields, s_ASCII, s_LATIN, s_UTF8, s_CHARSETS, s_need_charset, s_utf8_length, s_utf8_octets, s_has_sign, s_octets_in, s_NEVER_ESCAPED, s_escaped_octets, s_PER_CENT, s_BARRED, s_BARRED_IN_NAMES, s_HEX_FIGURES, s_WIDTH, s_MOST_NAME, s_MOST_PARTS, s_ROOM, s_Kind, s_is_token_code, s_is_token, s_is_plain, s_is_plain_params, s_percent_encoded, s_in_rows, s_encoded_rows, s_quoted_rows, s_number_octets, s_param_rows, s_write_params, s_write_kind, s_PLAIN_ENCODING, s_EQUALS, s_BLANK, s_TAB, s_LEAST_WIDTH, s_HEX, s_quoted_code, s_is_plain_quoted, s_line_pieces, s_soft_lines, s_text_lines, s_quoted_encoded, s_joined_lines, s_MOST_LINE, s_OWN_WORDS, s_BOUNDARY_LEAD, s_fields_told, s_bare_piece, s_Leaf, s_Many, s_Letter822, s_is_seven_bit, s_choose_encoding, s_in_encoding, s_begins_line, s_boundary_for, s_check_fields, s_head_octets, s_leaf_octets, s_joined_bodies, s_many_octets, s_letter_octets, s_built, s_letter_whole, s__law_kinds, s__law_octets, s__law_draw, s__law_fields, s__law_leaf, s__law_piece, s__law_number, s__law_many]
noncomputable def Kas : List Addr := [2, 3, 15, 18, 19, 20, 22, 23, 25, 26, 27, 29, 30, 32, 33, 34, 37, 38, 39, 40, 42, 43, 45, 46, 47, 54, 55, 57, 58, 60, 61, 62, 64, 65, 67, 68, 69, 70, 71, 72, 75, 82, 83, 84, 87, 94, 95, 96, 99, 101, 102, 104, 105, 106, 109, 110, 111, 112, 114, 115, 117, 118, 119, 127, 129, 130, 132, 133, 134, 137, 138, 139, 141, 142, 144, 145, 146, 147, 148, 149, 150, 153, 155, 156, 158, 159, 160, 162, 163, 165, 166, 167, 169, 170, 172, 173, 174, 176, 177, 179, 180, 181, 184, 185, 186, 188, 189, 191, 192, 193, 196, 197, 198, 199, 201, 202, 204, 205, 206, 209, 210, 211, 213, 214, 216, 217, 218, 220, 221, 223, 224, 225, 227, 228, 230, 231, 232, 233, 235, 236, 238, 239, 247, 249, 250, 252, 253, 254, 257, 258, 259, 261, 262, 264, 265, 266, 268, 269, 271, 272, 273, 275, 276, 278, 279, 280, 281, 282, 283, 284, 287, 289, 290, 292, 293, 294, 297, 298, 299, 302, 303, 304, 306, 307, 309, 310, 311, 313, 314, 316, 317, 318, 321, 322, 323, 326, 327, 328, 331, 332, 333, 336, 337, 338, 341, 342, 343, 346, 347, 348, 350, 351, 353, 354, 355, 357, 358, 360, 361, 362, 364, 365, 367, 368, 369, 371, 372, 374, 375, 376, 378, 379, 381, 382, 383, 384, 386, 387, 389, 390, 391, 393, 394, 396, 397, 398, 399, 402, 403, 404, 406, 407, 409, 410, 418, 419, 420, 422, 423, 425, 426, 427, 429, 430, 432, 433, 434, 436, 437, 439, 440, 441, 442, 443, 444, 445, 455, 456, 457, 459, 460, 462, 463, 464, 467, 468, 469, 472, 473, 474, 475, 476, 477, 478, 488, 489, 490, 492, 493, 495, 496, 497, 499, 500, 502, 503, 504, 506, 507, 509, 510, 511, 512, 513, 514, 515, 518, 521, 522, 523, 525, 526, 528, 529, 530, 532, 533, 535, 536, 537, 540, 541, 542, 545, 546, 547, 549, 550, 552, 553, 554, 557, 558, 559, 561, 562, 564, 565, 566, 569, 570, 571, 574, 575, 576, 578, 579, 581, 582, 583, 585, 586, 588, 589, 590, 592, 593, 595, 596, 597, 598, 599, 600, 601, 602, 603, 604, 605, 606, 607, 609, 610, 612, 613, 614, 616, 617, 619, 620, 621, 623, 624, 626, 627, 628, 630, 631, 633, 634, 635, 638, 639, 640, 643, 644, 645, 647, 648, 650, 651]
theorem Kas_eq : ∀ P, Kas = (K P).map (·.1) := fun P => by kernel_rfl
noncomputable def HK : Hook := kHook K Kas Kas_eq
noncomputable def Xt : Shared → Bool := fun s => xlAt vw [] s && recOk PySem.Challenge.rw_nz0319_01.row.records s
theorem l_st : ∀ (w : World) (os : OsState), (staticsOk (importedModules PG.main.body) (boot_heap w.params) (heap_721 w.params) && namesBound PG (heap_721 w.params) && gensDone ⟨heap_721 w.params, #[], {}, 1096, os⟩ && laidKept (boot_heap w.params) (heap_721 w.params)) = true := fun w os => by
  rw [PySem.W.Fast.te5923862056798008813]; kernel_rfl
theorem l_seen : ∀ (w : World) (os : OsState), seen ((recsOf vw).map (·.name)) (ownsOf vw) [] ⟨heap_721 w.params, #[], {}, 1096, os⟩ = expectedOf vw := fun w os => by
  rw [PySem.W.Fast.te5160383126252970620, PySem.W.Fast.te3399658132070893891, PySem.W.Fast.te5991557255702980513]; kernel_rfl
theorem l_blt : ∀ (w : World) (os : OsState), Heap.bltView (heap_721 w.params) = bltViewBooted := fun w os => by
  kernel_rfl
theorem l_keys : ∀ (w : World) (os : OsState), ((heap_721 w.params).keysOk (looseW vw loose) ((recsOf vw).map (·.name)) ((litsOf vw).map (·.1)) ((clssOf vw (looseW vw loose)).map (·.name)) && (heap_721 w.params).accountedOkI (importedModules PG.main.body) && (heap_721 w.params).isNs mainGlobals && (heap_721 w.params).isNs builtinsNs && tablesOk vw (heap_721 w.params) && Xt ⟨heap_721 w.params, #[], {}, 1096, os⟩ && (if true = true then (#[] : Array GenState).size == 0 else !leftWithCleanup #[])) = true := fun w os => by
  rw [PySem.W.Fast.te10880121769531294198, PySem.W.Fast.te821141287760084731, PySem.W.Fast.te3399658132070893891, PySem.W.Fast.te7409074990110511671, PySem.W.Fast.te13664370479719496447, PySem.W.Fast.te14722251495701143533, PySem.W.Fast.te5923862056798008813, PySem.W.Fast.te10994771534591457954]; kernel_rfl
theorem l_tabs : ∀ (w : World) (os : OsState), tabsOk vw ⟨heap_721 w.params, #[], {}, 1096, os⟩ = true := fun w os => by
  rw [PySem.W.Fast.te479339242167458305]; kernel_rfl
theorem l_pin : ∀ (w : World) (os : OsState), pinSeenD vw (drecsOf vw) ⟨heap_721 w.params, #[], {}, 1096, os⟩ = pinGoodD (drecsOf vw) := fun w os => by
  rw [PySem.W.Fast.te16090120013241838585, PySem.W.Fast.te3247288618530077131]; kernel_rfl
theorem l_plE : ∀ (w : World) (os : OsState), plainSeenE vw (looseW vw loose) ⟨heap_721 w.params, #[], {}, 1096, os⟩ = plainGoodE vw (looseW vw loose) := fun w os => by
  rw [PySem.W.Fast.te2386780881361962483, PySem.W.Fast.te821141287760084731]; kernel_rfl
theorem l_plD : ∀ (w : World) (os : OsState), plainSeenD vw loose ⟨heap_721 w.params, #[], {}, 1096, os⟩ = plainGoodD vw loose := fun w os => by
  rw [PySem.W.Fast.te11698064438423848299]; kernel_rfl
theorem l_wide : ∀ (w : World) (os : OsState), wideSeen vw ⟨heap_721 w.params, #[], {}, 1096, os⟩ = wideGood vw := fun w os => by
  rw [PySem.W.Fast.te7317090234206586261]; kernel_rfl
theorem l_cls : ∀ (w : World) (os : OsState), clsSeenW vw loose ⟨heap_721 w.params, #[], {}, 1096, os⟩ = clsGoodW vw loose := fun w os => by
  rw [PySem.W.Fast.te7369524293546568484]; kernel_rfl
theorem l_obs : ∀ (w : World) (os : OsState), HK.obs ⟨heap_721 w.params, #[], {}, 1096, os⟩ = HK.val w := fun w os => by
  kernel_rfl
theorem l_all (w : World) : (fun os => ((staticsOk (importedModules PG.main.body) (boot_heap w.params) (heap_721 w.params) && namesBound PG (heap_721 w.params) && gensDone ⟨heap_721 w.params, #[], {}, 1096, os⟩ && laidKept (boot_heap w.params) (heap_721 w.params)),
    openSeen vw loose (importedModules PG.main.body) Xt true ⟨heap_721 w.params, #[], {}, 1096, os⟩, HK.obs ⟨heap_721 w.params, #[], {}, 1096, os⟩)) = fun _ => (true, openGood vw loose, HK.val w) := funext fun os =>
  looks_pair (l_st w os) (looks_pair (looks_pair (l_seen w os) (looks_pair (l_blt w os) (looks_pair (l_keys w os) (looks_pair (l_tabs w os) (looks_pair (l_pin w os) (looks_pair (l_plE w os) (looks_pair (l_plD w os) (looks_pair (l_wide w os) (l_cls w os))))))))) (l_obs w os))
theorem l_size (w : World) : ((boot_heap w.params).isNs mainGlobals && (#[] : Array GenState).size == 0, (boot_heap w.params).objs.size, (boot_heap w.params).nsMap mainGlobals "__annotations__") = (true, 11, some (.ref 6)) := by
  rw [PySem.W.Fast.te8920871248978507458]; kernel_rfl
theorem l_open : opening PG = plainProg PG.main.scope.names := by kernel_rfl
theorem l_fence (s : Shared) : fenceModules? PG s = some s := by kernel_rfl
theorem left : LeftO PG vw loose Xt HK.obs HK.val 9014 := LeftO.of_pieces (boot_open l_open (by decide) l_fence) l_size g_run (by decide) l_all
noncomputable def dLaw : DefRec := { name := s_law, params := sArgs (stm 110), body := sBody (stm 110), scope := sScope (stm 110), pos := sPos (stm 110) }
theorem head (walk : WalkO vw loose (XL vw []) HK.says PySem.Challenge.rw_nz0319_01.row.toRowW dLaw [] (fun f vs => PySem.call f vs)) : PySem.Challenge.rw_nz0319_01.Holds :=
  law_of fun said => holds_open (q := vw) (loose := loose) (Xt := Xt) (XP := XL vw []) (Yf := HK.obs) (Ya := HK.val) (YP := HK.says) (d := dLaw) (kwd := []) (N := 9014)
    (by show LeftO PySem.Challenge.pw_nz0319_01 vw loose Xt HK.obs HK.val 9014; rw [PySem.W.Fast.te17816752537992605239]; exact left)
    HK.of HK.keeps (fun s e => xl_of s (Bool.and_eq_true_iff.mp e).1) XL.keeps (by kernel_rfl) (by show Program.theDef PySem.Challenge.pw_nz0319_01 s_law = _; rw [PySem.W.Fast.te17816752537992605239]; kernel_rfl) (by kernel_rfl)
    (fun s e => recFacts_of (Bool.and_eq_true_iff.mp e).2) (by kernel_rfl) said (by decide +kernel) ⟨rfl, rfl, rfl, rfl, rfl, by decide +kernel⟩ ⟨[.list []], by decide +kernel, by decide +kernel⟩ walk
end Mine
open PySem PySem.W PyProof.Rows PySem.Calls
set_option maxRecDepth 100000

namespace Mine

/-- pure Python values -/
inductive PV where
  | none
  | bool (b : Bool)
  | int (i : Int)
  | str (x : Str)
  | bytes (b : List UInt8)
  | glob (v : Value)
  | tup (l : List PV)
  | list (l : List PV)
  | dict (P : Params) (ks : List Str) (vs : List PV)
  | inst (C : Addr) (ks : List Str) (vs : List PV)
  | tape
  | range (n : Nat)

noncomputable abbrev FMap := Addr → Option Obj
noncomputable abbrev TS := Option (List Int × Int)
@[reducible] noncomputable def KK (w : World) : Frag := K w.params
noncomputable def gEs (P : Params) : Array DictEntry := match (o_674 P).data with | .dict es _ => es | _ => #[]

structure Cx where
  p : Program
  w : World
  H : Heap
  t : Addr
  mg : Str → Option Value
  mb : Str → Option Value
  inK : (KK w).In H
  g : H.Ns mainGlobals mg
  b : H.Ns builtinsNs mb
  bb : ∀ x : Str, x ≠ "__name__" → mb x = bootBuiltins x
  nolimit : H.NoLimit

@[reducible] def Cx.M (X : Cx) : Model := model X.p X.w

theorem Cx.mg_eq (X : Cx) {x : Str} {r : Option Value} (e : nsFind (gEs X.w.params) x = r) : X.mg x = r := by
  obtain ⟨o, es, ep, ho, hd, _, hm⟩ := X.g
  have hk : X.H.get? mainGlobals = some (o_674 X.w.params) := X.inK _ _ (by kernel_rfl)
  rw [hk] at ho
  cases ho
  have : (o_674 X.w.params).data = .dict (gEs X.w.params) 109 := by kernel_rfl
  rw [hd] at this
  cases this
  rw [← hm x]; exact e

noncomputable def FSeq (Fz : FMap) (cls : String) (a : Addr) (vs : List Value) : Prop := ∃ o, Fz a = some o ∧ o.cls = .type cls ∧ ∃ n, o.data = .seq vs.toArray n

noncomputable def KeysAre (ks : List Str) (es : List DictEntry) : Prop := es.map (fun e => e.key.isStr) = ks.map (fun k x => decide (k = x))

inductive KeyVals : List Str → List Value → List DictEntry → Prop
  | nil : KeyVals [] [] []
  | cons {k ks v vs es} {h : Int} {tk : Tok} : KeyVals ks vs es → KeyVals (k :: ks) (v :: vs) (⟨h, .str k tk, v⟩ :: es)

noncomputable def HashedBy (P : Params) (es : List DictEntry) : Prop := ∀ e ∈ es, ∃ x tk, e.key = .str x tk ∧ e.hash = PyData.keyHash P x

mutual
noncomputable def VR (t : Addr) (Fz : FMap) : PV → Value → Prop
  | .none, v => v = .none
  | .bool b, v => v = .bool b
  | .int i, v => ∃ tk, v = .int i tk
  | .str x, v => ∃ tk, v = .str x tk
  | .bytes b, v => ∃ tk, v = .bytes b.toArray tk
  | .glob u, v => v = u
  | .tup l, v => ∃ a vs, v = .ref a ∧ FSeq Fz "tuple" a vs ∧ VRs t Fz l vs
  | .list l, v => ∃ a vs, v = .ref a ∧ FSeq Fz "list" a vs ∧ VRs t Fz l vs
  | .dict P ks l, v => ∃ a o es vs n, v = .ref a ∧ Fz a = some o ∧ (a == sysModules) = false ∧ o.ExactDict ∧ o.data = .dict es n ∧ KeyVals ks vs es.toList ∧ HashedBy P es.toList ∧ VRs t Fz l vs
  | .inst C ks l, v => ∃ a dx es vs n, v = .ref a ∧ Fz a = some (instObj C dx) ∧ Fz dx = some (dictOf es n) ∧ KeyVals ks vs es ∧ VRs t Fz l vs
  | .tape, v => v = .ref t
  | .range n, v => ∃ a x y z, v = .ref a ∧ Fz a = some { cls := .type "range", dict := none, data := .fields #[.int 0 x, .int n y, .int 1 z], slots := #[] }
noncomputable def VRs (t : Addr) (Fz : FMap) : List PV → List Value → Prop
  | [], vs => vs = []
  | p :: l, vs => ∃ v r, vs = v :: r ∧ VR t Fz p v ∧ VRs t Fz l r
end

noncomputable def FExt (Fz Fz' : FMap) : Prop := ∀ a o, Fz a = some o → Fz' a = some o
theorem FExt.refl (Fz : FMap) : FExt Fz Fz := fun _ _ e => e
theorem FExt.trans {a b c : FMap} (x : FExt a b) (y : FExt b c) : FExt a c := fun _ _ e => y _ _ (x _ _ e)
theorem FSeq.mono {Fz Fz' : FMap} {c a vs} (e : FExt Fz Fz') (h : FSeq Fz c a vs) : FSeq Fz' c a vs := let ⟨o, x, r⟩ := h; ⟨o, e _ _ x, r⟩

mutual
theorem VR.mono {t : Addr} {Fz Fz' : FMap} (e : FExt Fz Fz') : ∀ {p : PV} {v : Value}, VR t Fz p v → VR t Fz' p v
  | .none, _, h => by simpa only [VR] using h
  | .bool _, _, h => by simpa only [VR] using h
  | .int _, _, h => by simpa only [VR] using h
  | .str _, _, h => by simpa only [VR] using h
  | .bytes _, _, h => by simpa only [VR] using h
  | .glob _, _, h => by simpa only [VR] using h
  | .tape, _, h => by simpa only [VR] using h
  | .range n, _, h => by
    simp only [VR] at h ⊢
    obtain ⟨a, x, y, z, h1, h2⟩ := h
    exact ⟨a, x, y, z, h1, e _ _ h2⟩
  | .tup l, _, h => by
    simp only [VR] at h ⊢
    obtain ⟨a, vs, h1, h2, h3⟩ := h
    exact ⟨a, vs, h1, h2.mono e, VRs.mono e h3⟩
  | .list l, _, h => by
    simp only [VR] at h ⊢
    obtain ⟨a, vs, h1, h2, h3⟩ := h
    exact ⟨a, vs, h1, h2.mono e, VRs.mono e h3⟩
  | .dict P ks l, _, h => by
    simp only [VR] at h ⊢
    obtain ⟨a, o, es, vs, n, h1, h2, h2', h3, h3', h4, h5, h6⟩ := h
    exact ⟨a, o, es, vs, n, h1, e _ _ h2, h2', h3, h3', h4, h5, VRs.mono e h6⟩
  | .inst C ks l, _, h => by
    simp only [VR] at h ⊢
    obtain ⟨a, dx, es, vs, n, h1, h2, h2', h3, h4⟩ := h
    exact ⟨a, dx, es, vs, n, h1, e _ _ h2, e _ _ h2', h3, VRs.mono e h4⟩
theorem VRs.mono {t : Addr} {Fz Fz' : FMap} (e : FExt Fz Fz') : ∀ {l : List PV} {vs : List Value}, VRs t Fz l vs → VRs t Fz' l vs
  | [], _, h => by simpa only [VRs] using h
  | p :: l, _, h => by
    simp only [VRs] at h ⊢
    obtain ⟨v, r, h1, h2, h3⟩ := h
    exact ⟨v, r, h1, VR.mono e h2, VRs.mono e h3⟩
end
theorem VRs.length {t : Addr} {Fz : FMap} : ∀ {l : List PV} {vs : List Value}, VRs t Fz l vs → vs.length = l.length
  | [], _, h => by simp only [VRs] at h; rw [h]; rfl
  | p :: l, _, h => by
    simp only [VRs] at h
    obtain ⟨v, r, rfl, _, h3⟩ := h
    simp [VRs.length h3]
theorem VRs.get {t : Addr} {Fz : FMap} : ∀ {l : List PV} {vs : List Value}, VRs t Fz l vs → ∀ {i : Nat} {p : PV}, l[i]? = some p → ∃ v, vs[i]? = some v ∧ VR t Fz p v
  | [], _, _, i, p, e => by simp at e
  | p :: l, _, h, i, q, e => by
    simp only [VRs] at h
    obtain ⟨v, r, rfl, hv, h3⟩ := h
    cases i with
    | zero => simp at e; subst e; exact ⟨v, rfl, hv⟩
    | succ i => simp at e; simpa using VRs.get h3 e
theorem VRs.append {t : Addr} {Fz : FMap} : ∀ {l : List PV} {vs : List Value} {l' vs'}, VRs t Fz l vs → VRs t Fz l' vs' → VRs t Fz (l ++ l') (vs ++ vs')
  | [], _, _, _, h, h' => by simp only [VRs] at h; rw [h]; exact h'
  | p :: l, _, _, _, h, h' => by
    simp only [VRs] at h
    obtain ⟨v, r, rfl, hv, h3⟩ := h
    simp only [List.cons_append, VRs]
    exact ⟨v, _, rfl, hv, VRs.append h3 h'⟩
theorem VRs.one {t : Addr} {Fz : FMap} {p : PV} {v : Value} (h : VR t Fz p v) : VRs t Fz [p] [v] := by
  simp only [VRs]; exact ⟨v, [], rfl, h, rfl⟩
theorem VRs.cons {t : Addr} {Fz : FMap} {p : PV} {v : Value} {l vs} (h : VR t Fz p v) (h' : VRs t Fz l vs) : VRs t Fz (p :: l) (v :: vs) := by
  simp only [VRs]; exact ⟨v, vs, rfl, h, h'⟩

/-- the tape: a list of two, the cells and the place -/
noncomputable def TapeAt (t : Addr) (Fz : FMap) : TS → Heap → Prop
  | none, _ => True
  | some (cs, i), h => ∃ c tk, VR t Fz (.list (cs.map .int)) c ∧ h.IsList t #[c, .int i tk]
theorem TapeAt.mono {t : Addr} {Fz Fz' : FMap} (e : FExt Fz Fz') {k : TS} {h : Heap} (x : TapeAt t Fz k h) : TapeAt t Fz' k h := by
  cases k with
  | none => trivial
  | some p => obtain ⟨c, tk, h1, h2⟩ := x; exact ⟨c, tk, h1.mono e, h2⟩
theorem IsList.keeps {h h' : Heap} {a : Addr} {vs : Array Value} (x : h.IsList a vs) (hk : ∀ o, h.get? a = some o → h'.get? a = some o) : h'.IsList a vs := let ⟨o, ho, r⟩ := x; ⟨o, hk o ho, r⟩
theorem TapeAt.keeps {t : Addr} {Fz : FMap} {k : TS} {h h' : Heap} (x : TapeAt t Fz k h) (hk : ∀ o, h.get? t = some o → h'.get? t = some o) : TapeAt t Fz k h' := by
  cases k with
  | none => trivial
  | some p => obtain ⟨c, tk, h1, h2⟩ := x; exact ⟨c, tk, h1, IsList.keeps h2 hk⟩

/-- what stands: the frozen map and the tape, at a heap -/
structure Base (X : Cx) (k : TS) (Fz : FMap) (h : Heap) : Prop where
  top : FExt X.H.get? Fz
  now : ∀ a o, Fz a = some o → h.get? a = some o
  nt : Fz X.t = none
  tape : TapeAt X.t Fz k h
  tis : ∃ o, h.get? X.t = some o
theorem Base.old {X : Cx} {k Fz h} (b : Base X k Fz h) : ∀ a o, X.H.get? a = some o → h.get? a = some o := fun a o e => b.now a o (b.top a o e)
theorem Base.K {X : Cx} {k Fz h} (b : Base X k Fz h) : (KK X.w).In h := X.inK.keeps b.old
theorem get_size (h : Heap) : h.get? h.objs.size = none := by
  cases q : h.get? h.objs.size with
  | none => rfl
  | some o => exact absurd (Heap.lt_size q) (Nat.lt_irrefl _)

/-- from (s₀, Fz₀) to (s, Fz): nothing that stood is turned but the tape -/
structure BS (X : Cx) (s₀ : Shared) (Fz₀ : FMap) (k : TS) (Fz : FMap) (s : Shared) : Prop where
  same : ∃ h tk, s = { s₀ with heap := h, toks := tk }
  keep : ∀ b o, b ≠ X.t → s₀.heap.get? b = some o → s.heap.get? b = some o
  ext : FExt Fz₀ Fz
  new : ∀ a o, Fz a = some o → Fz₀ a = some o ∨ s₀.heap.get? a = none
  ok : Base X k Fz s.heap
theorem BS.refl {X : Cx} {s : Shared} {Fz : FMap} {k : TS} (b : Base X k Fz s.heap) : BS X s Fz k Fz s :=
  ⟨⟨_, _, rfl⟩, fun _ _ _ e => e, .refl _, fun _ _ e => .inl e, b⟩
theorem BS.trans {X : Cx} {s₀ s₁ s₂ : Shared} {F₀ F₁ F₂ : FMap} {k₁ k₂ : TS} (x : BS X s₀ F₀ k₁ F₁ s₁) (y : BS X s₁ F₁ k₂ F₂ s₂) : BS X s₀ F₀ k₂ F₂ s₂ := by
  refine ⟨?_, fun b o n e => y.keep b o n (x.keep b o n e), x.ext.trans y.ext, fun a o e => ?_, y.ok⟩
  · obtain ⟨h, tk, rfl⟩ := x.same
    obtain ⟨h', tk', rfl⟩ := y.same
    exact ⟨h', tk', rfl⟩
  · rcases y.new a o e with e' | e'
    · exact x.new a o e'
    · right
      cases q : s₀.heap.get? a with
      | none => rfl
      | some p =>
        by_cases ht : a = X.t
        · subst ht; rw [y.ok.nt] at e; cases e
        · rw [x.keep a p ht q] at e'; cases e'

/-- what keeps all: the plain steps -/
structure PS (s₀ : Shared) (s : Shared) : Prop where
  same : ∃ h tk, s = { s₀ with heap := h, toks := tk }
  keep : ∀ b o, s₀.heap.get? b = some o → s.heap.get? b = some o
theorem PS.bs {s₀ s : Shared} (p : PS s₀ s) {X : Cx} {k Fz} (b : Base X k Fz s₀.heap) : BS X s₀ Fz k Fz s := by
  refine ⟨p.same, fun b o _ e => p.keep b o e, .refl _, fun _ _ e => .inl e, b.top, fun a o e => p.keep a o (b.now a o e), b.nt, b.tape.keeps fun o e => p.keep _ o e, ?_⟩
  obtain ⟨o, h⟩ := b.tis
  exact ⟨o, p.keep _ _ h⟩
theorem BS.toks {X : Cx} {s : Shared} {Fz : FMap} {k : TS} (b : Base X k Fz s.heap) (tk : Nat) : BS X s Fz k Fz { s with toks := tk } :=
  ⟨⟨_, _, rfl⟩, fun _ _ _ e => e, .refl _, fun _ _ e => .inl e, b⟩

/-- freeze one new object -/
noncomputable def FMap.put (Fz : FMap) (a : Addr) (o : Obj) : FMap := fun b => if b = a then some o else Fz b
theorem FMap.put_ext {Fz : FMap} {a : Addr} {o : Obj} (h : Fz a = none) : FExt Fz (Fz.put a o) := fun b p e => by
  unfold FMap.put
  split
  · rename_i q; subst q; rw [h] at e; cases e
  · exact e
theorem FMap.put_self {Fz : FMap} {a : Addr} {o : Obj} : Fz.put a o a = some o := if_pos rfl
theorem BS.freeze {X : Cx} {s₀ s : Shared} {F₀ Fz : FMap} {k : TS} (x : BS X s₀ F₀ k Fz s) {a : Addr} {o : Obj} (ho : s.heap.get? a = some o) (ha : s₀.heap.get? a = none) (hn : Fz a = none) (ht : a ≠ X.t) : BS X s₀ F₀ k (Fz.put a o) s := by
  have e := FMap.put_ext (o := o) hn
  refine ⟨x.same, x.keep, x.ext.trans e, fun b p q => ?_, x.ok.top.trans e, fun b p q => ?_, ?_, x.ok.tape.mono e, x.ok.tis⟩
  · unfold FMap.put at q
    split at q
    · rename_i r; subst r; exact .inr ha
    · exact x.new b p q
  · unfold FMap.put at q
    split at q
    · rename_i r; subst r; cases q; exact ho
    · exact x.ok.now b p q
  · unfold FMap.put
    rw [if_neg (Ne.symm ht)]; exact x.ok.nt
/-- a new object at the heap's end, frozen -/
theorem BS.push {X : Cx} {s : Shared} {Fz : FMap} {k : TS} (b : Base X k Fz s.heap) {o : Obj} (hf : o.isFreed = false) {tk : Nat} :
    BS X s Fz k (Fz.put s.heap.objs.size o) { s with heap := s.heap.push o, toks := tk } := by
  have h1 : BS X s Fz k Fz { s with heap := s.heap.push o, toks := tk } := PS.bs ⟨⟨_, _, rfl⟩, fun b p e => Heap.get?_push_of_some _ e⟩ b
  refine h1.freeze (Heap.get?_push_size _ hf) (get_size _) ?_ ?_
  · cases q : Fz s.heap.objs.size with
    | none => rfl
    | some p => exact absurd (Heap.lt_size (b.now _ _ q)) (Nat.lt_irrefl _)
  · obtain ⟨p, hp⟩ := b.tis
    intro e
    rw [← e] at hp
    exact absurd (Heap.lt_size hp) (Nat.lt_irrefl _)

structure Room (A : Around) (n : Nat) : Prop where
  hh : A.handled = none
  dp : A.depth + 2 * n + 2 ≤ 1000
  un : A.units + 10 * n + 30 ≤ 9900
theorem Room.deeper {A : Around} {n m : Nat} {env : Env} (r : Room A n) (h : m < n) : Room (A.deeper env) m := by
  obtain ⟨a, b, c⟩ := r
  refine ⟨a, ?_, ?_⟩
  · show A.depth + 1 + 2 * m + 2 ≤ 1000; omega
  · show A.units + 3 + 10 * m + 30 ≤ 9900; omega
theorem Room.le {A : Around} {n m : Nat} (r : Room A n) (h : m ≤ n) : Room A m := by
  obtain ⟨a, b, c⟩ := r
  exact ⟨a, by omega, by omega⟩
theorem Room.depth {A : Around} {n : Nat} (r : Room A n) : A.depth < recursionLimit := by have := r.dp; unfold recursionLimit; omega

noncomputable def FSpec (X : Cx) (n : Nat) (f : Value) (args : List PV) (k : TS) (r : PV) (k' : TS) : Prop :=
  ∀ A, Room A n → ∀ (s : Shared) (Fz : FMap) (vs : List Value) (Q E : Value → Shared → Prop), Base X k Fz s.heap → VRs X.t Fz args vs →
    (∀ v s' Fz', BS X s Fz k' Fz' s' → VR X.t Fz' r v → Q v s') → wpAny X.M A (call f vs) Q E s
theorem FSpec.le {X n m f args k r k'} (h : FSpec X n f args k r k') (l : n ≤ m) : FSpec X m f args k r k' := fun A R => h A (R.le l)

/-- t at (s, Fz): comes to a value that R says, the tape to k' -/
noncomputable def At (X : Cx) (A : Around) (s : Shared) (Fz : FMap) {α : Type} (t : Sem α) (k' : TS) (R : FMap → α → Prop) : Prop :=
  ∀ (Q : α → Shared → Prop) (E : Value → Shared → Prop), (∀ v s' Fz', BS X s Fz k' Fz' s' → R Fz' v → Q v s') → wpAny X.M A t Q E s
section
variable {X : Cx} {A : Around} {s : Shared} {Fz : FMap} {α β : Type} {k k' k'' : TS}
theorem At.bind {t : Sem α} {f : α → Sem β} {R : FMap → α → Prop} {R' : FMap → β → Prop} (h : At X A s Fz t k' R)
    (h' : ∀ v s₁ F₁, BS X s Fz k' F₁ s₁ → R F₁ v → At X A s₁ F₁ (f v) k'' R') : At X A s Fz (t >>= f) k'' R' := fun Q E q =>
  wpAny_bind (h _ E fun v s₁ F₁ b r => h' v s₁ F₁ b r Q E fun v' s' F' b' r' => q v' s' F' (b.trans b') r')
theorem At.pure {v : α} {R : FMap → α → Prop} (b : Base X k Fz s.heap) (h : R Fz v) : At X A s Fz (Pure.pure v) k R := fun _ _ q => wpAny_pure (q v s Fz (BS.refl b) h)
theorem At.holding {t : Sem α} {vs : List Value} {R : FMap → α → Prop} (h : At X A s Fz t k R) : At X A s Fz (PySem.holding vs t) k R := fun Q E q => wpAny_holding (h Q E q)
theorem At.standAt {p : Pos} {f : Unit → Sem α} {R : FMap → α → Prop} (h : At X A s Fz (f ()) k R) : At X A s Fz (PySem.standAt p >>= f) k R := fun Q E q => wpAny_bind (wpAny_standAt (h Q E q))
theorem At.mono {t : Sem α} {R R' : FMap → α → Prop} (h : At X A s Fz t k R) (hr : ∀ F v, FExt Fz F → R F v → R' F v) : At X A s Fz t k R' := fun Q E q => h Q E fun v s' F' b r => q v s' F' b (hr F' v b.ext r)
theorem At.eq {t t' : Sem α} {R : FMap → α → Prop} (e : t = t') (h : At X A s Fz t' k R) : At X A s Fz t k R := e ▸ h
/-- a step that keeps everything -/
theorem At.of_ps {t : Sem α} {R : FMap → α → Prop} (b : Base X k Fz s.heap) (h : ∀ (Q : α → Shared → Prop) (E : Value → Shared → Prop), (∀ v s', PS s s' → R Fz v → Q v s') → wpAny X.M A t Q E s) : At X A s Fz t k R :=
  fun Q E q => h Q E fun v s' p r => q v s' Fz (p.bs b) r
theorem PS.refl (s : Shared) : PS s s := ⟨⟨_, _, rfl⟩, fun _ _ e => e⟩
theorem PS.toks (s : Shared) (tk : Nat) : PS s { s with toks := tk } := ⟨⟨_, _, rfl⟩, fun _ _ e => e⟩
end

structure FR (X : Cx) (env : Env) (vm : List (Str × PV)) (gl : Option (Str × List PV)) (own : Bool) (h₀ : Heap) (Fz : FMap) (m cm : Str → Option Value) (h : Heap) : Prop where
  kind : env.scope.kind = .function
  glob : env.globals = mainGlobals
  bui : env.builtins = builtinsNs
  ns : h.Ns env.locals m
  Lnew : h₀.get? env.locals = none
  FL : Fz env.locals = none
  Lt : env.locals ≠ X.t
  cell : ∀ n c, env.cells.lookup n = some c → h.IsCell c (cm n)
  cF : ∀ n c, env.cells.lookup n = some c → Fz c = none ∧ c ≠ X.t ∧ c ≠ env.locals
  cnew : own = true → ∀ n c, env.cells.lookup n = some c → h₀.get? c = none
  apart : env.cells.Pairwise fun x y => x.2 ≠ y.2
  vars : ∀ n p, vm.lookup n = some p → ∃ v, VR X.t Fz p v ∧ ((env.kindOf n = some .local ∧ m n = some v) ∨ ((env.kindOf n = some .cell ∨ env.kindOf n = some .free) ∧ ∃ c, env.cells.lookup n = some c ∧ cm n = some v))
  grow : ∀ x l, gl = some (x, l) → ∃ a vs, env.kindOf x = some .local ∧ m x = some (.ref a) ∧ (∃ n, IsL h a vs.toArray n) ∧ VRs X.t Fz l vs ∧ h₀.get? a = none ∧ Fz a = none ∧ a ≠ X.t

structure FS (X : Cx) (s₀ : Shared) (F₀ : FMap) (env : Env) (vm : List (Str × PV)) (gl : Option (Str × List PV)) (own : Bool) (k : TS) (Fz : FMap) (s : Shared) : Prop where
  bs : BS X s₀ F₀ k Fz s
  fr : ∃ m cm, FR X env vm gl own s₀.heap Fz m cm s.heap

theorem BS.none_stays {X : Cx} {s s' : Shared} {Fz Fz' : FMap} {k : TS} (b : BS X s Fz k Fz' s') {a : Addr} (h : Fz a = none) {o : Obj} (l : s.heap.get? a = some o) : Fz' a = none := by
  cases q : Fz' a with
  | none => rfl
  | some o =>
    rcases b.new a o q with e | e
    · rw [h] at e; cases e
    · rw [l] at e; cases e
theorem Ns.obj {h : Heap} {a : Addr} {m : Str → Option Value} (x : h.Ns a m) : ∃ o es ep, h.get? a = some o ∧ o.data = .dict es ep := let ⟨o, es, ep, ho, hd, _⟩ := x; ⟨o, es, ep, ho, hd⟩
theorem FS.step {X : Cx} {s₀ s s' : Shared} {F₀ Fz Fz' : FMap} {env : Env} {vm gl own k k'} (f : FS X s₀ F₀ env vm gl own k Fz s) (b : BS X s Fz k' Fz' s') : FS X s₀ F₀ env vm gl own k' Fz' s' := by
  refine ⟨f.bs.trans b, ?_⟩
  obtain ⟨m, cm, r⟩ := f.fr
  have ke : Heap.ExtBut X.t s.heap s'.heap := fun a o n e => b.keep a o n e
  obtain ⟨oL, _, _, hL, _⟩ := Ns.obj r.ns
  refine ⟨m, cm, r.kind, r.glob, r.bui, r.ns.extBut ke r.Lt, r.Lnew, b.none_stays r.FL hL, r.Lt, fun n c e => ?_, fun n c e => ?_, r.cnew, r.apart, fun n p e => ?_, fun x l e => ?_⟩
  · obtain ⟨o, ho, hd⟩ := r.cell n c e
    exact ⟨o, b.keep c o (r.cF n c e).2.1 ho, hd⟩
  · obtain ⟨h1, h2, h3⟩ := r.cF n c e
    obtain ⟨o, ho, hd⟩ := r.cell n c e
    exact ⟨b.none_stays h1 ho, h2, h3⟩
  · obtain ⟨v, h1, h2⟩ := r.vars n p e
    exact ⟨v, h1.mono b.ext, h2⟩
  · obtain ⟨a, vs, h1, h2, h3, h4, h5, h6, h7⟩ := r.grow x l e
    refine ⟨a, vs, h1, h2, h3.imp fun n e => b.keep a _ h7 e, h4.mono b.ext, h5, ?_, h7⟩
    obtain ⟨n, ho⟩ := h3
    exact b.none_stays h6 ho

noncomputable def Ev (X : Cx) (env : Env) (A : Around) (vm : List (Str × PV)) (gl : Option (Str × List PV)) (k : TS) {α : Type} (t : Sem α) (k' : TS) (R : FMap → α → Prop) : Prop :=
  ∀ ⦃own : Bool⦄ s₀ F₀ s Fz, FS X s₀ F₀ env vm gl own k Fz s → At X A s Fz t k' R
noncomputable abbrev EvE (X : Cx) (env : Env) (A : Around) (vm : List (Str × PV)) (gl : Option (Str × List PV)) (k : TS) (e : PySem.Expr) (p : PV) (k' : TS) : Prop :=
  Ev X env A vm gl k (eval e env) k' fun Fz v => VR X.t Fz p v
noncomputable abbrev EvB (X : Cx) (env : Env) (A : Around) (vm : List (Str × PV)) (gl : Option (Str × List PV)) (k : TS) (e : PySem.Expr) (b : Bool) (k' : TS) : Prop :=
  Ev X env A vm gl k (isTrue e env (eval e env)) k' fun _ c => c = b

inductive Out where
  | next (vm : List (Str × PV)) (gl : Option (Str × List PV)) (k : TS)
  | ret (p : PV) (k : TS)
noncomputable def OutOk (X : Cx) (s₀ : Shared) (F₀ : FMap) (env : Env) : Out → Flow → Shared → FMap → Prop
  | .next vm gl k, fl, s, Fz => fl = .next ∧ FS X s₀ F₀ env vm gl true k Fz s
  | .ret p k, fl, s, Fz => ∃ v, fl = .ret v ∧ VR X.t Fz p v ∧ BS X s₀ F₀ k Fz s
/-- a statement keeps all but the frame's own and lists -/
noncomputable def KX (X : Cx) (env : Env) (s s' : Shared) : Prop := ∀ b o, b ≠ X.t → b ≠ env.locals → (∀ n c, env.cells.lookup n = some c → b ≠ c) → o.cls ≠ .type "list" → s.heap.get? b = some o → s'.heap.get? b = some o
theorem KX.refl {X env s} : KX X env s s := fun _ _ _ _ _ _ e => e
theorem KX.trans {X env s s' s''} (x : KX X env s s') (y : KX X env s' s'') : KX X env s s'' := fun b o h1 h2 h3 h4 e => y b o h1 h2 h3 h4 (x b o h1 h2 h3 h4 e)
theorem BS.kx {X : Cx} {env s s' Fz Fz' k} (b : BS X s Fz k Fz' s') : KX X env s s' := fun a o h1 _ _ _ e => b.keep a o h1 e
structure XS (X : Cx) (env : Env) (s : Shared) (Fz : FMap) (s' : Shared) (Fz' : FMap) : Prop where
  ext : FExt Fz Fz'
  kx : KX X env s s'
  new : ∀ a o, Fz' a = some o → o.cls ≠ .type "list" → Fz a = some o ∨ s.heap.get? a = none
  live : ∀ a o, s.heap.get? a = some o → ∃ o', s'.heap.get? a = some o'
theorem XS.refl {X env s Fz} : XS X env s Fz s Fz := ⟨.refl _, KX.refl, fun _ _ e _ => .inl e, fun _ o e => ⟨o, e⟩⟩
theorem XS.trans {X env s Fz s' Fz' s'' Fz''} (x : XS X env s Fz s' Fz') (y : XS X env s' Fz' s'' Fz'') : XS X env s Fz s'' Fz'' := by
  refine ⟨x.ext.trans y.ext, x.kx.trans y.kx, fun a o e c => ?_, fun a o e => ?_⟩
  · rcases y.new a o e c with h | h
    · exact x.new a o h c
    · right
      cases q : s.heap.get? a with
      | none => rfl
      | some p => obtain ⟨p', e'⟩ := x.live a p q; rw [h] at e'; cases e'
  · obtain ⟨o', e'⟩ := x.live a o e; exact y.live a o' e'
theorem BS.xs {X : Cx} {env s s' Fz Fz' k} (b : BS X s Fz k Fz' s') : XS X env s Fz s' Fz' := by
  refine ⟨b.ext, b.kx, fun a o e _ => b.new a o e, fun a o e => ?_⟩
  by_cases h : a = X.t
  · subst h; exact b.ok.tis
  · exact ⟨o, b.keep a o h e⟩
structure AX (env : Env) (s s' : Shared) : Prop where
  kp : ∀ b o, b ≠ env.locals → (∀ n c, env.cells.lookup n = some c → b ≠ c) → s.heap.get? b = some o → s'.heap.get? b = some o
  live : ∀ a o, s.heap.get? a = some o → ∃ o', s'.heap.get? a = some o'
theorem AX.refl {env s} : AX env s s := ⟨fun _ _ _ _ e => e, fun _ o e => ⟨o, e⟩⟩
theorem AX.trans {env s s' s''} (x : AX env s s') (y : AX env s' s'') : AX env s s'' := ⟨fun b o h1 h2 e => y.kp b o h1 h2 (x.kp b o h1 h2 e), fun a o e => let ⟨o', e'⟩ := x.live a o e; y.live a o' e'⟩
theorem AX.xs {X : Cx} {env s s' Fz} (x : AX env s s') : XS X env s Fz s' Fz := ⟨.refl _, fun b o _ h2 h3 _ e => x.kp b o h2 h3 e, fun _ _ e _ => .inl e, x.live⟩
noncomputable def Ex (X : Cx) (env : Env) (A : Around) (vm : List (Str × PV)) (gl : Option (Str × List PV)) (k : TS) (t : Sem Flow) (o : Out) : Prop :=
  ∀ ⦃s₀ : Shared⦄ F₀ s Fz (Q : Flow → Shared → Prop) (E : Value → Shared → Prop), FS X s₀ F₀ env vm gl true k Fz s → (∀ fl s' Fz', OutOk X s₀ F₀ env o fl s' Fz' → XS X env s Fz s' Fz' → Q fl s') → wpAny X.M A t Q E s

section
variable {X : Cx} {env : Env} {A : Around} {vm vm' : List (Str × PV)} {gl gl' : Option (Str × List PV)} {k k₁ k₂ k₃ : TS}

theorem ev_name {x : Str} {pos : Pos} {p : PV} (h : vm.lookup x = some p) (hd : (x == ("__debug__" : Str)) = false := by decide) (hc : (x == ("__classdict__" : Str)) = false := by decide) : EvE X env A vm gl k (.Name x pos) p k := by
  intro own s₀ F₀ s Fz f Q E q
  obtain ⟨m, cm, r⟩ := f.fr
  obtain ⟨v, hv, hh⟩ := r.vars x p h
  have q' := q v s Fz (BS.refl f.bs.ok) hv
  refine wpAny_Name ?_ hd
  rcases hh with ⟨h1, h2⟩ | ⟨h1 | h1, c, h2, h3⟩
  · exact wpAny_loadName_local r.kind h1 r.ns h2 q'
  · exact wpAny_loadName_cell r.kind h1 h2 (h3 ▸ r.cell x c h2) q'
  · exact wpAny_loadName_free r.kind h1 h2 (h3 ▸ r.cell x c h2) q' hc
theorem ev_glob {x : Str} {pos : Pos} {p : PV} {v : Value} (hx : env.kindOf x = some .globalImplicit) (hg : X.mg x = some v) (hv : VR X.t X.H.get? p v) (hd : (x == ("__debug__" : Str)) = false := by decide) : EvE X env A vm gl k (.Name x pos) p k := by
  intro own s₀ F₀ s Fz f Q E q
  obtain ⟨m, cm, r⟩ := f.fr
  exact Name_function_global r.kind hx (loadGlobal_global (by rw [r.glob]; exact X.g.keeps f.bs.ok.old) hg (q v s Fz (BS.refl f.bs.ok) (hv.mono f.bs.ok.top))) hd
theorem ev_builtin {x : Str} {pos : Pos} {v : Value} (hx : env.kindOf x = some .globalImplicit) (hg : X.mg x = none) (hn : x ≠ "__name__") (hb : bootBuiltins x = some v) (hd : (x == ("__debug__" : Str)) = false := by decide) : EvE X env A vm gl k (.Name x pos) (.glob v) k := by
  intro own s₀ F₀ s Fz f Q E q
  obtain ⟨m, cm, r⟩ := f.fr
  refine Name_function_global r.kind hx (loadGlobal_builtin (by rw [r.glob]; exact X.g.keeps f.bs.ok.old) hg (by rw [r.bui]; exact X.b.keeps f.bs.ok.old) ((X.bb x hn).trans hb) (q v s Fz (BS.refl f.bs.ok) ?_)) hd
  simp only [VR]

theorem ev_none {n pos} : EvE X env A vm gl k (.Constant .none n pos) .none k := fun _ _ _ s Fz f Q E q => wpAny_Constant_none (q _ s Fz (BS.refl f.bs.ok) (by simp only [VR]))
theorem ev_bool {b n pos} : EvE X env A vm gl k (.Constant (.bool b) n pos) (.bool b) k := fun _ _ _ s Fz f Q E q => wpAny_Constant_bool (q _ s Fz (BS.refl f.bs.ok) (by simp only [VR]))
theorem ev_int {i n pos} : EvE X env A vm gl k (.Constant (.int i) n pos) (.int i) k := fun _ _ _ s Fz f Q E q => wpAny_Constant_int (q _ _ Fz (BS.toks f.bs.ok _) (by simp only [VR]; exact ⟨_, rfl⟩))
theorem ev_str {x n pos} : EvE X env A vm gl k (.Constant (.str x) n pos) (.str x) k := fun _ _ _ s Fz f Q E q => wpAny_Constant_str (q _ _ Fz (BS.toks f.bs.ok _) (by simp only [VR]; exact ⟨_, rfl⟩))
theorem ev_bytes {x n pos} : EvE X env A vm gl k (.Constant (.bytes x) n pos) (.bytes x) k := fun _ _ _ s Fz f Q E q => Constant_bytes (q _ _ Fz (BS.toks f.bs.ok _) (by simp only [VR]; exact ⟨_, rfl⟩))

/-- a binary operation on two pure values -/
noncomputable def Bin (X : Cx) (A : Around) (f : Value → Value → Sem Value) (p q r : PV) : Prop :=
  ∀ s Fz k v u, Base X k Fz s.heap → VR X.t Fz p v → VR X.t Fz q u → At X A s Fz (f v u) k fun F x => VR X.t F r x
theorem ev_bin {l r : PySem.Expr} {op pos} {p q z : PV} (h1 : EvE X env A vm gl k l p k₁) (h2 : EvE X env A vm gl k₁ r q k₂) (h : Bin X A (binaryOp op) p q z) : EvE X env A vm gl k (.BinOp l op r pos) z k₂ := by
  intro own s₀ F₀ s Fz f Q E qq
  refine wpAny_BinOp (@h1 _ _ _ _ _ f _ E fun v s₁ F₁ b₁ r₁ => @h2 _ _ _ _ _ (f.step b₁) _ E fun u s₂ F₂ b₂ r₂ => h s₂ F₂ _ v u b₂.ok (r₁.mono b₂.ext) r₂ Q E fun x s₃ F₃ b₃ r₃ => qq x s₃ F₃ ((b₁.trans b₂).trans b₃) r₃)
theorem ev_cmp {l r : PySem.Expr} {op pos} {p q z : PV} (h1 : EvE X env A vm gl k l p k₁) (h2 : EvE X env A vm gl k₁ r q k₂) (h : Bin X A (compareOp op) p q z) (hm : behindInMarks op r = false := by rfl) : EvE X env A vm gl k (.Compare l [op] [r] pos) z k₂ := by
  intro own s₀ F₀ s Fz f Q E qq
  refine wpAny_Compare1 (@h1 _ _ _ _ _ f _ E fun v s₁ F₁ b₁ r₁ => @h2 _ _ _ _ _ (f.step b₁) _ E fun u s₂ F₂ b₂ r₂ => h s₂ F₂ _ v u b₂.ok (r₁.mono b₂.ext) r₂ Q E fun x s₃ F₃ b₃ r₃ => qq x s₃ F₃ ((b₁.trans b₂).trans b₃) r₃) hm
theorem evb_cmp {l r : PySem.Expr} {op pos} {p q : PV} {c : Bool} (h1 : EvE X env A vm gl k l p k₁) (h2 : EvE X env A vm gl k₁ r q k₂) (h : Bin X A (compareOp op) p q (.bool c)) (hm : behindInMarks op r = false := by rfl) : EvB X env A vm gl k (.Compare l [op] [r] pos) c k₂ := by
  intro own s₀ F₀ s Fz f Q E qq
  refine wpAny_isTrue_Compare1 (@h1 _ _ _ _ _ f _ E fun v s₁ F₁ b₁ r₁ => @h2 _ _ _ _ _ (f.step b₁) _ E fun u s₂ F₂ b₂ r₂ => h s₂ F₂ _ v u b₂.ok (r₁.mono b₂.ext) r₂ _ E fun x s₃ F₃ b₃ r₃ => ?_) hm
  simp only [VR] at r₃
  subst r₃
  exact wpAny_truthy_bool (qq _ s₃ F₃ ((b₁.trans b₂).trans b₃) rfl)
theorem evb_not {e : PySem.Expr} {pos} {c d : Bool} (h : EvB X env A vm gl k e c k₁) (hd : d = !c) : EvB X env A vm gl k (.UnaryOp .Not e pos) d k₁ := by
  intro own s₀ F₀ s Fz f Q E qq
  exact wpAny_isTrue_Not (@h _ _ _ _ _ f _ E fun b s₁ F₁ b₁ r₁ => qq _ s₁ F₁ b₁ (by rw [r₁, hd]))
theorem ev_ifexp {t a b : PySem.Expr} {pos} {c : Bool} {p : PV} (h : EvB X env A vm gl k t c k₁) (ha : c = true → EvE X env A vm gl k₁ a p k₂) (hb : c = false → EvE X env A vm gl k₁ b p k₂) : EvE X env A vm gl k (.IfExp t a b pos) p k₂ := by
  intro own s₀ F₀ s Fz f Q E qq
  refine wpAny_IfExp (@h _ _ _ _ _ f _ E fun d s₁ F₁ b₁ r₁ => ?_)
  subst r₁
  cases d with
  | true => exact @ha rfl _ _ _ _ _ (f.step b₁) Q E fun x s₃ F₃ b₃ r₃ => qq x s₃ F₃ (b₁.trans b₃) r₃
  | false => exact @hb rfl _ _ _ _ _ (f.step b₁) Q E fun x s₃ F₃ b₃ r₃ => qq x s₃ F₃ (b₁.trans b₃) r₃
/-- the truth of a pure value -/
noncomputable def Tr (X : Cx) (A : Around) (p : PV) (c : Bool) : Prop := ∀ s Fz k v, Base X k Fz s.heap → VR X.t Fz p v → At X A s Fz (truthy v) k fun _ d => d = c
theorem tr_bool {c : Bool} : Tr X A (.bool c) c := fun s Fz k v b hv Q E q => by
  simp only [VR] at hv; subst hv; exact wpAny_truthy_bool (q _ s Fz (BS.refl b) rfl)
noncomputable def plainTest : PySem.Expr → Bool
  | .UnaryOp .Not .. | .BoolOp .. | .IfExp .. | .Compare .. => false
  | _ => true
theorem evb_val {e : PySem.Expr} {p : PV} {c : Bool} (h : EvE X env A vm gl k e p k₁) (ht : Tr X A p c) (he : plainTest e = true := by rfl) : EvB X env A vm gl k e c k₁ := by
  intro own s₀ F₀ s Fz f Q E qq
  have e' : isTrue e env (eval e env) = (do let v ← eval e env; standAt e.pos; holding [v] (truthy v)) := by
    cases e <;> first | rfl | (simp [plainTest] at he; done) | (rename_i op _ _; cases op <;> first | rfl | (simp [plainTest] at he; done))
  rw [e']
  exact wpAny_bind (@h _ _ _ _ _ f _ E fun v s₁ F₁ b₁ r₁ => wpAny_bind (wpAny_standAt (wpAny_holding (ht s₁ F₁ _ v b₁.ok r₁ Q E fun x s₃ F₃ b₃ r₃ => qq x s₃ F₃ (b₁.trans b₃) r₃))))
theorem evb_and_nil : Ev X env A vm gl k (allTrue .And [] env) k fun _ c => c = true := fun _ _ _ s Fz f Q E q => wpAny_allTrue_And_nil (q _ s Fz (BS.refl f.bs.ok) rfl)
theorem evb_or_nil : Ev X env A vm gl k (allTrue .Or [] env) k fun _ c => c = false := fun _ _ _ s Fz f Q E q => wpAny_allTrue_Or_nil (q _ s Fz (BS.refl f.bs.ok) rfl)
end

theorem BS.but {X : Cx} {s₀ s : Shared} {F₀ Fz : FMap} {k : TS} (b : BS X s₀ F₀ k Fz s) {a : Addr} {h' : Heap} {tk : Nat} (hs : Heap.ExtBut a s.heap h') (h1 : s₀.heap.get? a = none) (h2 : Fz a = none) (h3 : a ≠ X.t) :
    BS X s₀ F₀ k Fz { s with heap := h', toks := tk } := by
  refine ⟨?_, fun c o n e => hs c o (fun q => by subst q; rw [h1] at e; cases e) (b.keep c o n e), b.ext, b.new, b.ok.top, fun c o e => hs c o (fun q => by subst q; rw [h2] at e; cases e) (b.ok.now c o e), b.ok.nt, b.ok.tape.keeps fun o e => hs _ o (Ne.symm h3) e, ?_⟩
  · obtain ⟨h, t, rfl⟩ := b.same; exact ⟨h', tk, rfl⟩
  · obtain ⟨o, e⟩ := b.ok.tis; exact ⟨o, hs _ _ (Ne.symm h3) e⟩

section
variable {X : Cx} {env : Env} {A : Around} {vm vm' : List (Str × PV)} {gl gl' : Option (Str × List PV)} {k k₁ k₂ k₃ : TS} {s₀ s : Shared} {F₀ Fz : FMap} {own : Bool}

theorem FS.weaken (f : FS X s₀ F₀ env vm gl own k Fz s) (h : ∀ n p, vm'.lookup n = some p → vm.lookup n = some p) : FS X s₀ F₀ env vm' gl own k Fz s := by
  obtain ⟨m, cm, r⟩ := f.fr
  exact ⟨f.bs, m, cm, r.kind, r.glob, r.bui, r.ns, r.Lnew, r.FL, r.Lt, r.cell, r.cF, r.cnew, r.apart, fun n p e => r.vars n p (h n p e), r.grow⟩
theorem FS.ungrow (f : FS X s₀ F₀ env vm gl own k Fz s) : FS X s₀ F₀ env vm none own k Fz s := by
  obtain ⟨m, cm, r⟩ := f.fr
  exact ⟨f.bs, m, cm, r.kind, r.glob, r.bui, r.ns, r.Lnew, r.FL, r.Lt, r.cell, r.cF, r.cnew, r.apart, r.vars, fun _ _ e => nomatch e⟩
/-- the growing list is frozen -/
theorem FS.freeze {x : Str} {l : List PV} (f : FS X s₀ F₀ env vm (some (x, l)) own k Fz s) (hx : env.kindOf x = some .local) : ∃ Fz', FS X s₀ F₀ env ((x, .list l) :: vm) none own k Fz' s ∧ XS X env s Fz s Fz' := by
  obtain ⟨m, cm, r⟩ := f.fr
  obtain ⟨a, vs, h1, h2, h3, h4, h5, h6, h7⟩ := r.grow x l rfl
  obtain ⟨nd, ho⟩ := h3
  obtain ⟨o, ho, hc, hd⟩ : ∃ o, s.heap.get? a = some o ∧ o.cls = .type "list" ∧ o.data = .seq vs.toArray nd := ⟨_, ho, rfl, rfl⟩
  have e := FMap.put_ext (o := o) h6
  obtain ⟨oL, esL, epL, hL, hLd⟩ := Ns.obj r.ns
  have ne : ∀ b p, s.heap.get? b = some p → (∀ vs n, p.data ≠ .seq vs n) → b ≠ a := fun b p e1 e2 q => by subst q; rw [ho] at e1; cases e1; exact e2 _ _ hd
  have put : ∀ b, b ≠ a → Fz b = none → (Fz.put a o) b = none := fun b q z => by unfold FMap.put; rw [if_neg q]; exact z
  refine ⟨Fz.put a o, ⟨f.bs.freeze ho h5 h6 h7, m, cm, r.kind, r.glob, r.bui, r.ns, r.Lnew, put _ (ne _ _ hL fun vs n q => by rw [hLd] at q; cases q) r.FL, r.Lt, r.cell, fun n c q => ?_, r.cnew, r.apart, fun n p q => ?_, fun _ _ e => nomatch e⟩, ⟨e, KX.refl, fun b p q z => ?_, fun _ o e => ⟨o, e⟩⟩⟩
  · obtain ⟨oc, hoc, hcd⟩ := r.cell n c q
    exact ⟨put _ (ne _ _ hoc fun vs n z => by rw [hcd] at z; cases z) (r.cF n c q).1, (r.cF n c q).2⟩
  · rw [List.lookup_cons] at q
    cases hb : n == x with
    | true =>
      rw [hb] at q; cases q
      have : n = x := beq_iff_eq.mp hb
      subst this
      refine ⟨.ref a, ?_, .inl ⟨h1, h2⟩⟩
      simp only [VR]
      exact ⟨a, vs, rfl, ⟨o, FMap.put_self, hc, nd, hd⟩, h4.mono e⟩
    | false =>
      rw [hb] at q
      obtain ⟨v, hv, hh⟩ := r.vars n p q
      exact ⟨v, hv.mono e, hh⟩
  · unfold FMap.put at q
    split at q
    · rename_i w; subst w; cases q; exact absurd hc z
    · exact .inl q

theorem XS.same {s' : Shared} (h : KX X env s s') (l : ∀ a o, s.heap.get? a = some o → ∃ o', s'.heap.get? a = some o') : XS X env s Fz s' Fz := ⟨.refl _, h, fun _ _ e _ => .inl e, l⟩
theorem live_but {h h' : Heap} {a b : Addr} {o : Obj} (hs : Heap.ExtBut a h h') (ha : ∃ o, h'.get? a = some o) (e : h.get? b = some o) : ∃ o', h'.get? b = some o' := by
  by_cases q : b = a
  · subst q; exact ha
  · exact ⟨o, hs b o q e⟩
theorem FS.store {x : Str} {p : PV} {v : Value} (f : FS X s₀ F₀ env vm gl own k Fz s) (hx : env.kindOf x = some .local) (hv : VR X.t Fz p v) (hg : ∀ y l, gl = some (y, l) → y ≠ x) {Q : Unit → Shared → Prop} {E : Value → Shared → Prop}
    (q : ∀ s', FS X s₀ F₀ env ((x, p) :: vm) gl own k Fz s' → AX env s s' → Q () s') : wpAny X.M A (storeName env x v) Q E s := by
  obtain ⟨m, cm, r⟩ := f.fr
  refine wpAny_storeName_local hx r.ns (fun h' hn hs => q _ ?_ (AX.mk (fun b o h2 _ e => (hs.2 b h2).trans e) fun b o e => live_but hs.extBut (by obtain ⟨o, _, _, h, _⟩ := Ns.obj hn; exact ⟨o, h⟩) e)) (by rw [r.kind]; rfl)
  refine ⟨f.bs.but hs.extBut r.Lnew r.FL r.Lt, _, cm, r.kind, r.glob, r.bui, hn, r.Lnew, r.FL, r.Lt, fun n c e => (r.cell n c e).sameBut hs (r.cF n c e).2.2, r.cF, r.cnew, r.apart, fun n p' e => ?_, fun y l e => ?_⟩
  · rw [List.lookup_cons] at e
    cases hb : n == x with
    | true =>
      rw [hb] at e; cases e
      have : n = x := beq_iff_eq.mp hb
      subst this
      exact ⟨v, hv, .inl ⟨hx, if_pos rfl⟩⟩
    | false =>
      rw [hb] at e
      obtain ⟨u, h1, h2⟩ := r.vars n p' e
      have hne : n ≠ x := beq_eq_false_iff_ne.mp hb
      exact ⟨u, h1, h2.imp (fun z => ⟨z.1, (if_neg hne).trans z.2⟩) id⟩
  · obtain ⟨a, vs, h1, h2, h3, h4⟩ := r.grow y l e
    refine ⟨a, vs, h1, (if_neg (hg y l e)).trans h2, ?_, h4⟩
    obtain ⟨n, ho⟩ := h3
    refine ⟨n, (hs.2 a fun z => ?_).trans ho⟩
    obtain ⟨oL, es, ep, hL, hLd⟩ := Ns.obj r.ns
    subst z
    rw [ho] at hL; cases hL
    cases hLd
theorem FS.storeC {x : Str} {p : PV} {v : Value} (f : FS X s₀ F₀ env vm gl true k Fz s) (hx : env.kindOf x = some .cell) {c : Addr} (hc : env.cells.lookup x = some c) (hv : VR X.t Fz p v) {Q : Unit → Shared → Prop} {E : Value → Shared → Prop}
    (q : ∀ s', FS X s₀ F₀ env ((x, p) :: vm) gl true k Fz s' → AX env s s' → Q () s') : wpAny X.M A (storeName env x v) Q E s := by
  obtain ⟨m, cm, r⟩ := f.fr
  refine wpAny_storeName_cell r.kind hx hc (r.cell x c hc) fun h' hc' hs => q _ ?_ (AX.mk (fun b o _ h3 e => (hs.2 b (h3 x c hc)).trans e) fun b o e => live_but hs.extBut (by obtain ⟨o, ho, _⟩ := hc'; exact ⟨o, ho⟩) e)
  have hF := r.cF x c hc
  refine ⟨f.bs.but (tk := s.toks) hs.extBut (r.cnew rfl x c hc) hF.1 hF.2.1, m, fun y => if y = x then some v else cm y, r.kind, r.glob, r.bui, r.ns.sameBut hs (Ne.symm hF.2.2), r.Lnew, r.FL, r.Lt, fun n c' e => ?_, r.cF, r.cnew, r.apart, fun n p' e => ?_, fun y l e => ?_⟩
  · by_cases hn : n = x
    · subst hn
      rw [hc] at e; cases e
      simpa using hc'
    · rw [if_neg hn]
      exact (r.cell n c' e).sameBut hs fun z => hn (name_of_addr r.apart (mem_of_lookup e) (z ▸ mem_of_lookup hc))
  · rw [List.lookup_cons] at e
    cases hb : n == x with
    | true =>
      rw [hb] at e; cases e
      have : n = x := beq_iff_eq.mp hb
      subst this
      exact ⟨v, hv, .inr ⟨.inl hx, c, hc, if_pos rfl⟩⟩
    | false =>
      rw [hb] at e
      obtain ⟨u, h1, h2⟩ := r.vars n p' e
      have hne : n ≠ x := beq_eq_false_iff_ne.mp hb
      exact ⟨u, h1, h2.imp id (fun z => ⟨z.1, z.2.imp fun d w => ⟨w.1, (if_neg hne).trans w.2⟩⟩)⟩
  · obtain ⟨a, vs, h1, h2, h3, h4⟩ := r.grow y l e
    refine ⟨a, vs, h1, h2, ?_, h4⟩
    obtain ⟨n, ho⟩ := h3
    refine ⟨n, (hs.2 a fun z => ?_).trans ho⟩
    obtain ⟨oc, hcc, hcd⟩ := r.cell x c hc
    subst z
    rw [ho] at hcc; cases hcc
    cases hcd

/-- an assignment to a target -/
noncomputable def Asg (X : Cx) (env : Env) (A : Around) (own : Bool) (gl : Option (Str × List PV)) (tgt : PySem.Expr) (p : PV) (vm vm' : List (Str × PV)) : Prop :=
  ∀ s₀ F₀ k Fz s v (Q : Unit → Shared → Prop) (E : Value → Shared → Prop), FS X s₀ F₀ env vm gl own k Fz s → VR X.t Fz p v → (∀ s', FS X s₀ F₀ env vm' gl own k Fz s' → AX env s s' → Q () s') → wpAny X.M A (assign tgt env v) Q E s
theorem asg_name {x : Str} {pos} {p : PV} (hx : env.kindOf x = some .local) (hg : ∀ y l, gl = some (y, l) → y ≠ x := by intro _ _ h; cases h) : Asg X env A own gl (.Name x pos) p vm ((x, p) :: vm) :=
  fun _ _ _ _ _ _ _ _ f hv q => wpAny_assign_Name (f.store hx hv hg q)
theorem asg_cell {x : Str} {pos} {p : PV} (hx : env.kindOf x = some .cell) (hc : (env.cells.lookup x).isSome = true) : Asg X env A true gl (.Name x pos) p vm ((x, p) :: vm) :=
  fun _ _ _ _ _ _ _ _ f hv q => by
    obtain ⟨c, hc⟩ := Option.isSome_iff_exists.mp hc
    exact wpAny_assign_Name (f.storeC hx hc hv q)
theorem asg_weaken {tgt p} {vm₁ : List (Str × PV)} (h : Asg X env A own gl tgt p vm vm₁) (hw : ∀ n q, vm'.lookup n = some q → vm₁.lookup n = some q) : Asg X env A own gl tgt p vm vm' :=
  fun _ _ _ _ _ _ Q E f hv q => @h _ _ _ _ _ _ Q E f hv fun s' f' kx => q s' (f'.weaken hw) kx

end
inductive AsgL (X : Cx) (env : Env) (A : Around) (own : Bool) (gl : Option (Str × List PV)) : List PySem.Expr → List PV → List (Str × PV) → List (Str × PV) → Prop
  | nil {vm : List (Str × PV)} : AsgL X env A own gl [] [] vm vm
  | cons {x : Str} {pos : Pos} {p : PV} {ts : List PySem.Expr} {ps : List PV} {vm vm₁ vm₂ : List (Str × PV)} : Asg X env A own gl (.Name x pos) p vm vm₁ → AsgL X env A own gl ts ps vm₁ vm₂ → AsgL X env A own gl (.Name x pos :: ts) (p :: ps) vm vm₂
section
variable {X : Cx} {env : Env} {A : Around} {vm vm' : List (Str × PV)} {gl gl' : Option (Str × List PV)} {k k₁ k₂ k₃ k' : TS} {s₀ s : Shared} {F₀ Fz : FMap} {own : Bool}
theorem AsgL.run {ts : List PySem.Expr} {ps : List PV} (h : AsgL X env A own gl ts ps vm vm') : (assignEach ts env).length = ps.length ∧ (assignEach ts env).findIdx? (·.1) = none ∧
    ∀ s₀ F₀ k Fz s vs (Q : Unit → Shared → Prop) (E : Value → Shared → Prop), FS X s₀ F₀ env vm gl own k Fz s → VRs X.t Fz ps vs → (∀ s', FS X s₀ F₀ env vm' gl own k Fz s' → AX env s s' → Q () s') → wpAny X.M A (assignInOrder ((assignEach ts env).map (·.2)) vs) Q E s := by
  induction h with
  | nil =>
    refine ⟨rfl, rfl, fun s₀ F₀ k Fz s vs Q E f hv q => ?_⟩
    simp only [VRs] at hv; subst hv
    exact wpAny_pure (q s f AX.refl)
  | @cons x pos p ts ps vm vm₁ vm₂ h1 h2 ih =>
    obtain ⟨e1, e2, e3⟩ := ih
    refine ⟨?_, ?_, fun s₀ F₀ k Fz s vs Q E f hv q => ?_⟩
    · show (assignEach ts env).length + 1 = ps.length + 1; rw [e1]
    · show List.findIdx? (·.1) ((false, assign (.Name x pos) env) :: assignEach ts env) = none
      rw [List.findIdx?_cons, e2]; rfl
    · simp only [VRs] at hv
      obtain ⟨v, r, rfl, hp, hr⟩ := hv
      show wpAny X.M A (do holding r (assign (.Name x pos) env v); assignInOrder ((assignEach ts env).map (·.2)) r) Q E s
      exact wpAny_bind (wpAny_holding (@h1 _ _ _ _ _ _ _ _ f hp fun s' f' kx => e3 _ _ _ _ _ _ _ _ f' hr fun s'' f'' kx' => q s'' f'' (kx.trans kx')))
theorem asg_tup {ts : List PySem.Expr} {ps : List PV} {n pos} (hh : A.handled = none) (h : AsgL X env A own gl ts ps vm vm') : Asg X env A own gl (.Tuple ts n pos) (.tup ps) vm vm' := by
  intro s₀ F₀ k Fz s v Q E f hv q
  simp only [VR] at hv
  obtain ⟨a, vs, rfl, ⟨o, ho, hc, m, hd⟩, hvs⟩ := hv
  obtain ⟨e1, e2, e3⟩ := h.run
  refine wpAny_assign_Tuple hh ⟨o, f.bs.ok.now a o ho, hc, m, hd⟩ (by rw [e1, List.size_toArray, hvs.length]) e2 fun h' he => ?_
  have b : BS X s Fz k Fz { s with heap := h' } := by
    have := BS.but (X := X) (BS.refl f.bs.ok) (tk := s.toks) he (get_size _) ?_ ?_
    · exact this
    · cases z : Fz s.heap.objs.size with
      | none => rfl
      | some p => exact absurd (Heap.lt_size (f.bs.ok.now _ _ z)) (Nat.lt_irrefl _)
    · obtain ⟨p, hp⟩ := f.bs.ok.tis
      intro z; rw [← z] at hp; exact absurd (Heap.lt_size hp) (Nat.lt_irrefl _)
  refine e3 _ _ _ _ _ _ Q E (f.step b) hvs fun s' f' kx => q s' f' (AX.trans ⟨fun c o _ _ e => he c o (Nat.ne_of_lt (Heap.lt_size e)) e, fun c o e => ⟨o, he c o (Nat.ne_of_lt (Heap.lt_size e)) e⟩⟩ kx)

/- statements -/
theorem ex_nil : Ex X env A vm gl k (execs [] env) (.next vm gl k) := fun _ _ s Fz _ _ f q => wpAny_execs_nil (q _ s Fz ⟨rfl, f⟩ XS.refl)
theorem ex_seq {st : Stmt} {rest : List Stmt} {o : Out} (h1 : Ex X env A vm gl k (exec st env) (.next vm' gl' k')) (h2 : Ex X env A vm' gl' k' (execs rest env) o) : Ex X env A vm gl k (execs (st :: rest) env) o :=
  fun s₀ F₀ s Fz Q E f q => wpAny_execs_cons (@h1 _ _ _ _ _ E f fun fl s' Fz' ok e => by
    obtain ⟨rfl, f'⟩ := ok
    exact @h2 _ _ _ _ Q E f' fun fl s'' F'' ok e' => q fl s'' F'' ok (e.trans e'))
theorem ex_stop {st : Stmt} {rest : List Stmt} {p : PV} {k' : TS} (h1 : Ex X env A vm gl k (exec st env) (.ret p k')) : Ex X env A vm gl k (execs (st :: rest) env) (.ret p k') :=
  fun s₀ F₀ s Fz Q E f q => wpAny_execs_cons (@h1 _ _ _ _ _ E f fun fl s' Fz' ok e => by
    obtain ⟨v, rfl, h⟩ := ok
    exact q _ s' Fz' ⟨v, rfl, h⟩ e)
/-- a statement, then the rest: by its outcome -/
noncomputable def Then (X : Cx) (env : Env) (A : Around) (rest : Sem Flow) : Out → Out → Prop
  | .next vm gl k, o => Ex X env A vm gl k rest o
  | .ret p k, o => o = .ret p k
theorem ex_then {st : Stmt} {rest : List Stmt} {o₁ o : Out} (h1 : Ex X env A vm gl k (exec st env) o₁) (h2 : Then X env A (execs rest env) o₁ o) : Ex X env A vm gl k (execs (st :: rest) env) o := by
  cases o₁ with
  | next vm' gl' k' => exact ex_seq h1 h2
  | ret p k' => cases (show o = .ret p k' from h2); exact ex_stop h1
theorem ex_weaken {t : Sem Flow} {o : Out} (h : Ex X env A vm' gl k t o) (hw : ∀ n p, vm'.lookup n = some p → vm.lookup n = some p) : Ex X env A vm gl k t o :=
  fun s₀ F₀ s Fz Q E f q => @h _ _ _ _ Q E (f.weaken hw) q
theorem ex_ungrow {t : Sem Flow} {o : Out} (h : Ex X env A vm none k t o) : Ex X env A vm gl k t o := fun s₀ F₀ s Fz Q E f q => @h _ _ _ _ Q E f.ungrow q
theorem ex_freeze {t : Sem Flow} {o : Out} {x l} (hx : env.kindOf x = some .local) (h : Ex X env A ((x, .list l) :: vm) none k t o) : Ex X env A vm (some (x, l)) k t o := fun s₀ F₀ s Fz Q E f q => by
  obtain ⟨Fz', f', e⟩ := f.freeze hx
  exact @h _ _ _ _ Q E f' fun fl s' F' ok e' => q fl s' F' ok (e.trans e')
theorem ex_ret {e : PySem.Expr} {pos} {p : PV} (h : EvE X env A vm gl k e p k₁) : Ex X env A vm gl k (exec (.Return (some e) pos) env) (.ret p k₁) :=
  fun s₀ F₀ s Fz Q E f q => wpAny_Return_some (@h _ _ _ _ _ f _ E fun v s' Fz' b r => q _ s' Fz' ⟨v, rfl, r, f.bs.trans b⟩ b.xs)
theorem ex_assign {tgt : PySem.Expr} {pos : Pos} {e : PySem.Expr} {p : PV} (h : EvE X env A vm gl k e p k₁) (ha : Asg X env A true gl tgt p vm vm') (hs : swapsWithSole [tgt] e pos.line env = pure false := by rfl) (hw : swappedStores [tgt] e env = pure none := by rfl)
    (he : (assignEach [tgt] env).map (·.2) = [assign tgt env] := by rfl) : Ex X env A vm gl k (exec (.Assign [tgt] e pos) env) (.next vm' gl k₁) :=
  fun s₀ F₀ s Fz Q E f q => wpAny_Assign_stores (@h _ _ _ _ _ f _ E fun v s' Fz' b r => by
    rw [he]
    exact @ha _ _ _ _ _ _ _ E (f.step b) r fun s'' f'' kx => q _ s'' Fz' ⟨rfl, f''⟩ (b.xs.trans kx.xs)) hs hw
theorem ex_if {t : PySem.Expr} {a b : List Stmt} {pos : Pos} {c : Bool} {o : Out} (h : EvB X env A vm gl k t c k₁) (ha : c = true → Ex X env A vm gl k₁ (execs a env) o) (hb : c = false → Ex X env A vm gl k₁ (execs b env) o) : Ex X env A vm gl k (exec (.If t a b pos) env) o :=
  fun s₀ F₀ s Fz Q E f q => wpAny_If (@h _ _ _ _ _ f _ E fun d s' Fz' b r => by
    subst r
    cases d with
    | true => exact @ha rfl _ _ _ _ Q E (f.step b) fun fl s'' F'' ok e => q fl s'' F'' ok (b.xs.trans e)
    | false => exact @hb rfl _ _ _ _ Q E (f.step b) fun fl s'' F'' ok e => q fl s'' F'' ok (b.xs.trans e))
/-- joined outcomes: by cases on the test -/
theorem ex_if' {t : PySem.Expr} {a b : List Stmt} {pos : Pos} {c : Bool} {oa ob : Out} (h : EvB X env A vm gl k t c k₁) (ha : c = true → Ex X env A vm gl k₁ (execs a env) oa) (hb : c = false → Ex X env A vm gl k₁ (execs b env) ob) : Ex X env A vm gl k (exec (.If t a b pos) env) (if c then oa else ob) := by
  refine ex_if h (fun e => ?_) fun e => ?_
  · subst e; exact ha rfl
  · subst e; exact hb rfl

/- loops -/
inductive WhileEx (X : Cx) (env : Env) (A : Around) (test : PySem.Expr) (body : List Stmt) : List (Str × PV) → Option (Str × List PV) → TS → Out → Prop
  | stop {vm : List (Str × PV)} {gl : Option (Str × List PV)} {k k₁ : TS} : EvB X env A vm gl k test false k₁ → WhileEx X env A test body vm gl k (.next vm gl k₁)
  | turn {vm : List (Str × PV)} {gl : Option (Str × List PV)} {k k₁ : TS} {vm' : List (Str × PV)} {gl' : Option (Str × List PV)} {k' : TS} {o : Out} : EvB X env A vm gl k test true k₁ → Ex X env A vm gl k₁ (execs body env) (.next vm' gl' k') → WhileEx X env A test body vm' gl' k' o → WhileEx X env A test body vm gl k o
  | ret {vm : List (Str × PV)} {gl : Option (Str × List PV)} {k k₁ k' : TS} {p : PV} : EvB X env A vm gl k test true k₁ → Ex X env A vm gl k₁ (execs body env) (.ret p k') → WhileEx X env A test body vm gl k (.ret p k')
theorem while_code {test : PySem.Expr} {body : List Stmt} {o : Out} (h : WhileEx X env A test body vm gl k o) : ∀ s₀ F₀ s Fz (R : Result → Shared → Prop), FS X s₀ F₀ env vm gl true k Fz s →
    (∀ fl s' Fz', OutOk X s₀ F₀ env o fl s' Fz' → XS X env s Fz s' Fz' → R (.ok fl) s') → codeAny X.M A (.whileLoop test body [] env) R s := by
  induction h with
  | stop ht =>
    intro s₀ F₀ s Fz R f q
    refine codeAny_whileLoop (fun n s' => n = 0 ∧ s' = s) (fun n s' hs => ?_) 0 ⟨rfl, rfl⟩
    obtain ⟨rfl, rfl⟩ := hs
    refine @ht _ _ _ _ _ f _ _ fun c s₁ F₁ b r => ?_
    subst r
    rw [if_neg (by decide)]
    exact wpAny_execs_nil (q _ s₁ F₁ ⟨rfl, f.step b⟩ b.xs)
  | turn ht hb _ ih =>
    intro s₀ F₀ s Fz R f q
    refine codeAny_of_tree ?_
    show wpAny X.M A ((whileTurn test body [] env).onRaise (fun x => do noteFrame x env; theTreesLotGoes x)) _ _ s
    refine wpAny_noted ?_
    simp only [whileTurn]
    refine wpAny_bind (@ht _ _ _ _ _ f _ _ fun c s₁ F₁ b r => ?_)
    subst r
    rw [if_pos rfl]
    refine wpAny_bind (@hb _ _ _ _ _ _ (f.step b) fun fl s₂ F₂ ok e => ?_)
    obtain ⟨rfl, f₂⟩ := ok
    exact wpAny_pure ⟨rfl, @ih _ _ _ _ R f₂ fun fl s₃ F₃ ok e' => q fl s₃ F₃ ok ((XS.trans b.xs e).trans e')⟩
  | ret ht hb =>
    intro s₀ F₀ s Fz R f q
    refine codeAny_of_tree ?_
    show wpAny X.M A ((whileTurn test body [] env).onRaise (fun x => do noteFrame x env; theTreesLotGoes x)) _ _ s
    refine wpAny_noted ?_
    simp only [whileTurn]
    refine wpAny_bind (@ht _ _ _ _ _ f _ _ fun c s₁ F₁ b r => ?_)
    subst r
    rw [if_pos rfl]
    refine wpAny_bind (@hb _ _ _ _ _ _ (f.step b) fun fl s₂ F₂ ok e => ?_)
    obtain ⟨v, rfl, ok⟩ := ok
    exact wpAny_pure (q _ s₂ F₂ ⟨v, rfl, ok⟩ (XS.trans b.xs e))
theorem ex_while {test : PySem.Expr} {body : List Stmt} {pos : Pos} {o : Out} (h : WhileEx X env A test body vm gl k o) : Ex X env A vm gl k (exec (.While test body [] pos) env) o :=
  fun s₀ F₀ s Fz Q E f q => wpAny_While (while_code @h _ _ _ _ _ f fun fl s' F' ok e => q fl s' F' ok e)
end

/-- an iterator at I that gives the items -/
structure It (X : Cx) (A : Around) (I : Addr) (items : List PV) (St : Nat → FMap → Heap → Prop) : Prop where
  obj : ∀ i F h, St i F h → ∃ o T vs, h.get? I = some o ∧ o.cls = .type T ∧ o.data = .fields vs ∧ ["enumerate", "zip", "dict_itemiterator", "dict_reverseitemiterator", "odict_iterator", "itertools.zip_longest", "itertools.pairwise"].contains T = false ∧ T ≠ "list"
  frame : ∀ i F h F' h', St i F h → (∀ a o, F a = some o → h.get? a = some o) → FExt F F' → (∀ a o, F' a = some o → h'.get? a = some o) → (∀ o, h.get? I = some o → h'.get? I = some o) → St i F' h'
  item : ∀ i F s (Q : Option Value → Shared → Prop) (E : Value → Shared → Prop) p, items[i]? = some p → St i F s.heap →
    (∀ v h' tk, VR X.t F p v → St (i + 1) F h' → Heap.ExtBut I s.heap h' → Q (some v) { s with heap := h', toks := tk }) → wpAny X.M A (pyNext (.ref I)) Q E s
  done : ∀ F s (Q : Option Value → Shared → Prop) (E : Value → Shared → Prop), St items.length F s.heap → (∀ h' tk, Heap.ExtBut I s.heap h' → Q none { s with heap := h', toks := tk }) → wpAny X.M A (pyNext (.ref I)) Q E s
  self : ∀ i F s (Q : Value → Shared → Prop) (E : Value → Shared → Prop), St i F s.heap → Q (.ref I) s → wpAny X.M A (pyIter (.ref I)) Q E s

noncomputable def IterOf (X : Cx) (A : Around) (p : PV) (items : List PV) : Prop := ∀ s F k v, Base X k F s.heap → VR X.t F p v → ∀ (Q : Value → Shared → Prop) (E : Value → Shared → Prop),
  (∀ I St o, It X A I items St → I = s.heap.objs.size → o.isFreed = false → St 0 F (s.heap.push o) → Q (.ref I) { s with heap := s.heap.push o }) → wpAny X.M A (pyIter v) Q E s

section
variable {X : Cx} {A : Around}
theorem It.of {I : Addr} {fp : List Addr} {n : Nat} {P : Nat → Value → Prop} {St : Nat → Heap → Prop} {T : String} {F₀ : FMap} {items : List PV} (W : Walks X.p X.w A I fp [I] n P St)
    (hobj : ∀ i h, St i h → ∃ o vs, h.get? I = some o ∧ o.cls = .type T ∧ o.data = .fields vs) (hn : n = items.length) (hv : ∀ i v p, P i v → items[i]? = some p → VR X.t F₀ p v)
    (hfp : ∀ b ∈ fp, b = I ∨ ∃ o, F₀ b = some o)
    (hT : ["enumerate", "zip", "dict_itemiterator", "dict_reverseitemiterator", "odict_iterator", "itertools.zip_longest", "itertools.pairwise"].contains T = false := by decide +kernel) (hl : T ≠ "list" := by decide +kernel) : It X A I items (fun i F h => FExt F₀ F ∧ St i h) := by
  refine ⟨fun i F h st => ?_, fun i F h F' h' st hF e hF' hI => ⟨st.1.trans e, W.frame i h h' st.2 fun b hb o ho => ?_⟩, fun i F s Q E p hp st q => ?_, fun F s Q E st q => ?_, fun i F s Q E st q => W.self i s Q E st.2 q⟩
  · obtain ⟨o, vs, h1, h2, h3⟩ := hobj i h st.2
    exact ⟨o, T, vs, h1, h2, h3, hT, hl⟩
  · rcases hfp b hb with rfl | ⟨o', ho'⟩
    · exact hI o ho
    · have h1 := hF b o' (st.1 _ _ ho')
      rw [ho] at h1; cases h1
      exact hF' b o (e _ _ (st.1 _ _ ho'))
  · have hi : i < n := by rw [hn]; exact (List.getElem?_eq_some_iff.mp hp).1
    refine W.item i s Q E hi st.2 fun v h' tk hP st' hk => q v h' tk ((hv i v p hP hp).mono st.1) ⟨st.1, st'⟩ fun b o hb e => hk b o (by simpa using hb) e
  · exact W.done s Q E (hn ▸ st.2) fun h' tk hk => q h' tk fun b o hb e => hk b o (by simpa using hb) e

theorem Base.lt {k : TS} {F : FMap} {h : Heap} (b : Base X k F h) {a : Addr} {o : Obj} (e : F a = some o) : a < h.objs.size := Heap.lt_size (b.now a o e)
theorem iter_list (hh : A.handled = none) {l : List PV} : IterOf X A (.list l) l := by
  intro s F k v b hv Q E q
  simp only [VR] at hv
  obtain ⟨a, vs, rfl, ⟨o, ho, hc, n, hd⟩, hvs⟩ := hv
  have hl : s.heap.IsList a vs.toArray := ⟨o, b.now a o ho, hc, n, hd⟩
  have hne : a ≠ s.heap.objs.size := Nat.ne_of_lt (b.lt ho)
  refine wpAny_pyIter_list hl ?_
  refine q _ _ _ (It.of (F₀ := F) (T := "list_iterator") (Walks.list hh s.heap.objs.size a hne vs.toArray) (fun i h st => ?_) (by simpa using hvs.length) (fun i v p hP hp => ?_) (fun b hb => ?_)) rfl rfl ⟨.refl _, ⟨_, Heap.get?_push_size _ rfl, rfl, rfl⟩, hl.push _⟩
  · obtain ⟨o, h1, h2, h3⟩ := st.1; exact ⟨o, _, h1, h2, h3⟩
  · obtain ⟨v', e, r⟩ := hvs.get hp
    have : vs[i]? = some v := by simpa using hP
    rw [this] at e; cases e; exact r
  · simp at hb; rcases hb with rfl | rfl
    · exact .inl rfl
    · exact .inr ⟨o, ho⟩
theorem iter_tup (hh : A.handled = none) {l : List PV} : IterOf X A (.tup l) l := by
  intro s F k v b hv Q E q
  simp only [VR] at hv
  obtain ⟨a, vs, rfl, ⟨o, ho, hc, n, hd⟩, hvs⟩ := hv
  have hl : s.heap.IsTuple a vs.toArray := ⟨o, b.now a o ho, hc, n, hd⟩
  have hne : a ≠ s.heap.objs.size := Nat.ne_of_lt (b.lt ho)
  refine wpAny_pyIter_tuple hl ?_
  refine q _ _ _ (It.of (F₀ := F) (T := "tuple_iterator") (Walks.tuple hh s.heap.objs.size a hne vs.toArray) (fun i h st => ?_) (by simpa using hvs.length) (fun i v p hP hp => ?_) (fun b hb => ?_)) rfl rfl ⟨.refl _, ⟨_, Heap.get?_push_size _ rfl, rfl, rfl⟩, hl.push _⟩
  · obtain ⟨o, h1, h2, h3⟩ := st.1; exact ⟨o, _, h1, h2, h3⟩
  · obtain ⟨v', e, r⟩ := hvs.get hp
    have : vs[i]? = some v := by simpa using hP
    rw [this] at e; cases e; exact r
  · simp at hb; rcases hb with rfl | rfl
    · exact .inl rfl
    · exact .inr ⟨o, ho⟩
noncomputable def chars (x : Str) : List PV := x.cps.toList.map fun c => .str ⟨#[c]⟩
noncomputable def codes (b : List UInt8) : List PV := b.map fun c => .int c.toNat
noncomputable def nats (n : Nat) : List PV := (List.range n).map fun i : Nat => PV.int (i : Int)
theorem iter_str (hh : A.handled = none) {x : Str} : IterOf X A (.str x) (chars x) := by
  intro s F k v b hv Q E q
  simp only [VR] at hv
  obtain ⟨t, rfl⟩ := hv
  have hvv : ∀ i v p, SignAt x i v → (chars x)[i]? = some p → VR X.t F p v := fun i v p hP hp => by
    obtain ⟨c, u, hc, rfl⟩ := hP
    have hc' : x.cps.toList[i]? = some c := by simpa using hc
    unfold chars at hp
    rw [List.getElem?_map, hc'] at hp
    cases hp
    simp only [VR]; exact ⟨u, rfl⟩
  cases ha : x.cps.all (· < 128)
  · refine wpAny_pyIter_wide ha (q _ _ _ (It.of (F₀ := F) (T := "str_iterator") (Walks.strWide hh s.heap.objs.size x t) (fun i h st => ?_) (by simp [chars]) hvv (fun b hb => .inl (by simpa using hb))) rfl rfl ⟨.refl _, ⟨_, Heap.get?_push_size _ rfl, rfl, rfl⟩⟩)
    obtain ⟨o, h1, h2, h3⟩ := st; exact ⟨o, _, h1, h2, h3⟩
  · refine wpAny_pyIter_ascii ha (q _ _ _ (It.of (F₀ := F) (T := "str_ascii_iterator") (Walks.strAscii hh s.heap.objs.size x t) (fun i h st => ?_) (by simp [chars]) hvv (fun b hb => .inl (by simpa using hb))) rfl rfl ⟨.refl _, ⟨_, Heap.get?_push_size _ rfl, rfl, rfl⟩⟩)
    obtain ⟨o, h1, h2, h3⟩ := st; exact ⟨o, _, h1, h2, h3⟩
theorem iter_bytes (hh : A.handled = none) {x : List UInt8} : IterOf X A (.bytes x) (codes x) := by
  intro s F k v b hv Q E q
  simp only [VR] at hv
  obtain ⟨t, rfl⟩ := hv
  refine KBw.pyIter_bytes (q _ _ _ (It.of (F₀ := F) (T := "bytes_iterator") (KBw.walks hh s.heap.objs.size x.toArray t) (fun i h st => ?_) (by simp [codes]) (fun i v p hP hp => ?_) (fun b hb => .inl (by simpa using hb))) rfl rfl ⟨.refl _, ⟨_, Heap.get?_push_size _ rfl, rfl, rfl⟩⟩)
  · obtain ⟨o, h1, h2, h3⟩ := st; exact ⟨o, _, h1, h2, h3⟩
  · obtain ⟨c, u, hc, rfl⟩ := hP
    have hc' : x[i]? = some c := by simpa using hc
    unfold codes at hp
    rw [List.getElem?_map, hc'] at hp
    cases hp
    simp only [VR]; exact ⟨u, rfl⟩
theorem iter_range (hh : A.handled = none) {n : Nat} (hn : n ≤ 1000000) : IterOf X A (.range n) (nats n) := by
  intro s F k v b hv Q E q
  simp only [VR] at hv
  obtain ⟨a, x, y, z, rfl, ho⟩ := hv
  have hsz : Builtin.Range.rangeSize 0 n 1 = n := by
    unfold Builtin.Range.rangeSize
    simp
    try omega
  refine wpAny_pyIter_range (b.now _ _ ho) ?_ ?_
  · unfold Builtin.Range.small
    rw [hsz]
    unfold Builtin.Range.rangeFitsLong
    simp
    omega
  · rw [hsz]
    refine q _ _ _ (It.of (F₀ := F) (T := "range_iterator") (Walks.range hh s.heap.objs.size 0 1 n) (fun i h st => ⟨_, _, st, rfl, rfl⟩) (by simp [nats]) (fun i v p hP hp => ?_) (fun b hb => .inl (by simpa using hb))) rfl rfl ⟨.refl _, ?_⟩
    · obtain ⟨u, rfl⟩ := hP
      unfold nats at hp
      rw [List.getElem?_map] at hp
      cases hr : (List.range n)[i]? with
      | none => rw [hr] at hp; cases hp
      | some j =>
        rw [hr] at hp; cases hp
        have hlt := (List.getElem?_eq_some_iff.mp hr)
        obtain ⟨h1, h2⟩ := hlt
        simp at h2
        subst h2
        simp only [VR]; exact ⟨u, by simp⟩
    · have := Heap.get?_push_size s.heap (o := { cls := .type "range_iterator", data := .fields #[rawInt 0, rawInt n, rawInt 1] }) rfl
      simpa [IsRangeIter] using this
end

/-- one new object that changes -/
theorem FS.but {X : Cx} {s₀ s : Shared} {F₀ Fz : FMap} {env : Env} {vm gl own k} (f : FS X s₀ F₀ env vm gl own k Fz s) {I : Addr} {h' : Heap} {tk : Nat} (hs : Heap.ExtBut I s.heap h') (h1 : s₀.heap.get? I = none) (h2 : Fz I = none) (h3 : I ≠ X.t)
    (ho : ∀ o, s.heap.get? I = some o → ∃ vs, o.data = .fields vs) : FS X s₀ F₀ env vm gl own k Fz { s with heap := h', toks := tk } := by
  refine ⟨f.bs.but hs h1 h2 h3, ?_⟩
  obtain ⟨m, cm, r⟩ := f.fr
  obtain ⟨oL, es, ep, hL, hLd⟩ := Ns.obj r.ns
  have nL : env.locals ≠ I := fun e => by subst e; obtain ⟨vs, q⟩ := ho _ hL; rw [hLd] at q; cases q
  refine ⟨m, cm, r.kind, r.glob, r.bui, r.ns.extBut hs nL, r.Lnew, r.FL, r.Lt, fun n c e => ?_, r.cF, r.cnew, r.apart, r.vars, fun x l e => ?_⟩
  · obtain ⟨o, hc, hd⟩ := r.cell n c e
    exact ⟨o, hs c o (fun z => by subst z; obtain ⟨vs, q⟩ := ho _ hc; rw [hd] at q; cases q) hc, hd⟩
  · obtain ⟨a, vs, q1, q2, q3, q4⟩ := r.grow x l e
    obtain ⟨n, hc⟩ := q3
    exact ⟨a, vs, q1, q2, ⟨n, hs a _ (fun z => by subst z; obtain ⟨ws, q⟩ := ho _ hc; cases q) hc⟩, q4⟩

inductive ForEx (X : Cx) (env : Env) (A : Around) (tgt : PySem.Expr) (body : List Stmt) : List PV → List (Str × PV) → Option (Str × List PV) → TS → Out → Prop
  | stop {vm : List (Str × PV)} {gl : Option (Str × List PV)} {k : TS} : ForEx X env A tgt body [] vm gl k (.next vm gl k)
  | turn {p : PV} {ps : List PV} {vm : List (Str × PV)} {gl : Option (Str × List PV)} {k : TS} {vm₁ vm' : List (Str × PV)} {gl' : Option (Str × List PV)} {k' : TS} {o : Out} :
      Asg X env A true gl tgt p vm vm₁ → Ex X env A vm₁ gl k (execs body env) (.next vm' gl' k') → ForEx X env A tgt body ps vm' gl' k' o → ForEx X env A tgt body (p :: ps) vm gl k o
  | ret {p : PV} {ps : List PV} {vm : List (Str × PV)} {gl : Option (Str × List PV)} {k : TS} {vm₁ : List (Str × PV)} {q : PV} {k' : TS} :
      Asg X env A true gl tgt p vm vm₁ → Ex X env A vm₁ gl k (execs body env) (.ret q k') → ForEx X env A tgt body (p :: ps) vm gl k (.ret q k')

section
variable {X : Cx} {env : Env} {A : Around} {vm vm' : List (Str × PV)} {gl gl' : Option (Str × List PV)} {k k₁ k₂ k₃ k' : TS} {s₀ s : Shared} {F₀ Fz : FMap} {own : Bool}

theorem letGo_it {I : Addr} {items : List PV} {St : Nat → FMap → Heap → Prop} (it : It X A I items St) {i : Nat} {F : FMap} {tgt : PySem.Expr} {v : Value} {Q : Unit → Shared → Prop} {E : Value → Shared → Prop} (st : St i F s.heap) (q : Q () s) :
    wpAny X.M A (letOwnedTupleGo tgt (.ref I) v) Q E s := by
  obtain ⟨o, T, vs, h1, h2, h3, h4, _⟩ := it.obj _ _ _ st
  have key : ∀ a : Addr, wpAny X.M A (do
      let o ← load I
      match o.cls, o.data with
      | .type n, .fields vs =>
        if ["enumerate", "zip", "dict_itemiterator", "dict_reverseitemiterator", "odict_iterator", "itertools.zip_longest", "itertools.pairwise"].contains n && vs[0]? == some (rawInt a) then
          rule "for.unpacks-the-owned-tuple"
          updateField I 0 .none
      | _, _ => pure () : Sem Unit) Q E s := fun a => by
    refine wpAny_bind (wpAny_load h1 ?_)
    rw [h2, h3]
    simp only [h4, Bool.false_and, Bool.false_eq_true, if_false]
    exact wpAny_pure q
  unfold letOwnedTupleGo
  split
  · cases v <;> first | exact key _ | exact wpAny_pure q
  · cases v <;> first | exact key _ | exact wpAny_pure q
  · exact wpAny_pure q

theorem for_code {tgt : PySem.Expr} {body : List Stmt} {I : Addr} {items : List PV} {St : Nat → FMap → Heap → Prop} (it : It X A I items St) {ps : List PV} {o : Out} (h : ForEx X env A tgt body ps vm gl k o) :
    ∀ (i : Nat) s₀ F₀ s Fz sA FA (R : Result → Shared → Prop), i ≤ items.length → items.drop i = ps → FS X s₀ F₀ env vm gl true k Fz s → St i Fz s.heap → sA.heap.get? I = none → s₀.heap.get? I = none → Fz I = none → I ≠ X.t → XS X env sA FA s Fz →
    (∀ fl s' Fz', OutOk X s₀ F₀ env o fl s' Fz' → XS X env sA FA s' Fz' → R (.ok fl) s') → codeAny X.M A (.forLoop tgt (.ref I) body [] env) R s := by
  have hobj : ∀ {i F} {s : Shared}, St i F s.heap → ∀ o, s.heap.get? I = some o → ∃ vs, o.data = .fields vs := fun st o e => by
    obtain ⟨o', T, vs, h1, h2, h3, _⟩ := it.obj _ _ _ st
    rw [h1] at e; cases e; exact ⟨vs, h3⟩
  -- a turn's beginning
  have begin_ : ∀ {i : Nat} {p : PV} {ps : List PV} {vm : List (Str × PV)} {gl : Option (Str × List PV)} {k : TS} {vm₁ : List (Str × PV)} {s₀ F₀ s Fz sA FA} {B : Unit → Sem Fin} {Q : Fin → Shared → Prop} {E : Value → Shared → Prop}, items.drop i = p :: ps → FS X s₀ F₀ env vm gl true k Fz s → St i Fz s.heap → sA.heap.get? I = none → s₀.heap.get? I = none → Fz I = none → I ≠ X.t →
      XS X env sA FA s Fz → Asg X env A true gl tgt p vm vm₁ →
      (∀ s₂, FS X s₀ F₀ env vm₁ gl true k Fz s₂ → St (i + 1) Fz s₂.heap → XS X env sA FA s₂ Fz → wpAny X.M A (B ()) Q E s₂) →
      wpAny X.M A (do
        standAt tgt.pos
        match ← (pyNext (.ref I)).onRaise (fun _ => standAt { tgt.pos with line := 0 }) with
        | none => again (.block [] env)
        | some v => do
          letOwnedTupleGo tgt (.ref I) v
          assign tgt env v
          B ()) Q E s := by
    intro i p ps vm gl k vm₁ s₀ F₀ s Fz sA FA B Q E hd f st hA h0 hF ht xs ha kk
    have hp : items[i]? = some p := by
      have : (items.drop i)[0]? = some p := by rw [hd]; rfl
      simpa using this
    refine wpAny_bind (wpAny_standAt (wpAny_bind (wpAny_onRaise (it.item i Fz s _ _ p hp st fun v h' tk hv st' he => ?_))))
    have f₁ : FS X s₀ F₀ env vm gl true k Fz { s with heap := h', toks := tk } := f.but he h0 hF ht (hobj st)
    refine wpAny_bind (letGo_it it (s := { s with heap := h', toks := tk }) st' (wpAny_bind (@ha _ _ _ _ _ _ _ _ f₁ hv fun s₂ f₂ ax => kk s₂ f₂ ?_ ?_)))
    · obtain ⟨m, cm, r⟩ := f₁.fr
      refine it.frame _ _ _ _ _ st' f₁.bs.ok.now (.refl _) f₂.bs.ok.now fun o ho => ?_
      obtain ⟨vs, hvs⟩ := hobj (s := { s with heap := h', toks := tk }) st' o ho
      obtain ⟨oL, es, ep, hL, hLd⟩ := Ns.obj r.ns
      refine ax.kp I o (fun e => ?_) (fun n c hc e => ?_) ho
      · subst e; rw [hL] at ho; cases ho; rw [hLd] at hvs; cases hvs
      · subst e; obtain ⟨oc, h1, h2⟩ := r.cell n _ hc; rw [h1] at ho; cases ho; rw [h2] at hvs; cases hvs
    · refine XS.trans ⟨xs.ext, fun b o q1 q2 q3 q4 e => he b o (fun z => ?_) (xs.kx b o q1 q2 q3 q4 e), xs.new, fun a o e => ?_⟩ ax.xs
      · subst z; rw [hA] at e; cases e
      · obtain ⟨o', e'⟩ := xs.live a o e
        exact ⟨o', he a o' (fun z => by subst z; rw [hA] at e; cases e) e'⟩
  induction h with
  | @stop vm gl k =>
    intro i s₀ F₀ s Fz sA FA R hle hd f st hA h0 hF ht xs q
    refine codeAny_of_tree ?_
    show wpAny X.M A ((forTurn tgt (.ref I) body [] env).onRaise (fun x => do noteFrame x env; theTreesLotGoes x)) _ _ s
    refine wpAny_noted ?_
    simp only [forTurn]
    have hi : items.length ≤ i := by simpa using hd
    have st' : St items.length Fz s.heap := by
      rw [Nat.le_antisymm hi hle]; exact st
    refine wpAny_bind (wpAny_standAt (wpAny_bind (wpAny_onRaise (it.done Fz s _ _ st' fun h' tk he => ?_))))
    have f₁ : FS X s₀ F₀ env vm gl true k Fz { s with heap := h', toks := tk } := f.but he h0 hF ht (hobj st)
    refine wpAny_pure ⟨rfl, codeAny_block (wpAny_execs_nil (q _ _ Fz ⟨rfl, f₁⟩ ⟨xs.ext, fun b o q1 q2 q3 q4 e => he b o (fun z => ?_) (xs.kx b o q1 q2 q3 q4 e), xs.new, fun a o e => ?_⟩))⟩
    · subst z; rw [hA] at e; cases e
    · obtain ⟨o', e'⟩ := xs.live a o e
      exact ⟨o', he a o' (fun z => by subst z; rw [hA] at e; cases e) e'⟩
  | @turn p ps vm gl k vm₁ vm' gl' k' o ha hb _ ih =>
    intro i s₀ F₀ s Fz sA FA R hle hd f st hA h0 hF ht xs q
    refine codeAny_of_tree ?_
    show wpAny X.M A ((forTurn tgt (.ref I) body [] env).onRaise (fun x => do noteFrame x env; theTreesLotGoes x)) _ _ s
    refine wpAny_noted ?_
    unfold forTurn
    refine begin_ (B := fun _ => do match ← execs body env with
      | .next | .cont => again (.forLoop tgt (.ref I) body [] env)
      | .brk => pure (.done .next)
      | .ret v => pure (.done (.ret v))) hd f st hA h0 hF ht xs ha fun s₂ f₂ st₂ xs₂ => ?_
    refine wpAny_bind (@hb _ _ _ _ _ _ f₂ fun fl s₃ F₃ ok xs₃ => ?_)
    obtain ⟨rfl, f₃⟩ := ok
    obtain ⟨oI, T, vs, hI, hc, hdI, _, hT⟩ := it.obj _ _ _ st₂
    have ncl : oI.cls ≠ .type "list" := by rw [hc]; intro e; cases e; exact hT rfl
    obtain ⟨m, cm, r⟩ := f₂.fr
    obtain ⟨oL, es, ep, hL, hLd⟩ := Ns.obj r.ns
    have hI₃ : s₃.heap.get? I = some oI := by
      refine xs₃.kx I oI ht (fun e => ?_) (fun n c hc e => ?_) ncl hI
      · subst e; rw [hL] at hI; cases hI; rw [hLd] at hdI; cases hdI
      · subst e; obtain ⟨oc, h1, h2⟩ := r.cell n _ hc; rw [h1] at hI; cases hI; rw [h2] at hdI; cases hdI
    have hF₃ : F₃ I = none := by
      cases e : F₃ I with
      | none => rfl
      | some o' =>
        have := f₃.bs.ok.now _ _ e
        rw [hI₃] at this; cases this
        rcases xs₃.new I oI e ncl with h | h
        · rw [hF] at h; cases h
        · rw [hI] at h; cases h
    refine wpAny_pure ⟨rfl, ih (i + 1) _ _ _ _ sA FA R ?_ ?_ f₃ (it.frame _ _ _ _ _ st₂ f₂.bs.ok.now xs₃.ext f₃.bs.ok.now fun o ho => ?_) hA h0 hF₃ ht (xs₂.trans xs₃) q⟩
    · have := congrArg List.length hd; simp at this; omega
    · rw [← List.drop_drop, hd]; rfl
    · rw [hI] at ho; cases ho; exact hI₃
  | @ret p ps vm gl k vm₁ qv k' ha hb =>
    intro i s₀ F₀ s Fz sA FA R hle hd f st hA h0 hF ht xs q
    refine codeAny_of_tree ?_
    show wpAny X.M A ((forTurn tgt (.ref I) body [] env).onRaise (fun x => do noteFrame x env; theTreesLotGoes x)) _ _ s
    refine wpAny_noted ?_
    unfold forTurn
    refine begin_ (B := fun _ => do match ← execs body env with
      | .next | .cont => again (.forLoop tgt (.ref I) body [] env)
      | .brk => pure (.done .next)
      | .ret v => pure (.done (.ret v))) hd f st hA h0 hF ht xs ha fun s₂ f₂ st₂ xs₂ => ?_
    refine wpAny_bind (@hb _ _ _ _ _ _ f₂ fun fl s₃ F₃ ok xs₃ => ?_)
    obtain ⟨v, rfl, ok⟩ := ok
    exact wpAny_pure (q _ s₃ F₃ ⟨v, rfl, ok⟩ (xs₂.trans xs₃))

/-- for: the iterable's value, its items, the turns -/
theorem ex_for {tgt iter : PySem.Expr} {body : List Stmt} {pos : Pos} {p : PV} {items : List PV} {o : Out} (h : EvE X env A vm gl k iter p k₁) (hi : IterOf X A p items) (hb : ForEx X env A tgt body items vm gl k₁ o)
    (hs : ∀ x, foldedSetIterable iter env x = pure x := by intro _; rfl) : Ex X env A vm gl k (exec (.For tgt iter body [] pos) env) o := by
  intro s₀ F₀ s Fz Q E f q
  refine wpAny_For (@h _ _ _ _ _ f _ _ fun v s₁ F₁ b₁ r₁ => hi s₁ F₁ _ v b₁.ok r₁ _ _ fun I St ob it hI hf st => ?_) hs
  have f₁ := f.step b₁
  subst hI
  have hnew := get_size s₁.heap
  have pb : BS X s₁ F₁ k₁ F₁ { s₁ with heap := s₁.heap.push ob } := PS.bs ⟨⟨_, _, rfl⟩, fun b o e => Heap.get?_push_of_some _ e⟩ b₁.ok
  have fA := f₁.step pb
  have hs0 : s₀.heap.get? s₁.heap.objs.size = none := by
    cases e : s₀.heap.get? s₁.heap.objs.size with
    | none => rfl
    | some o =>
      by_cases ht : s₁.heap.objs.size = X.t
      · obtain ⟨p, hp⟩ := b₁.ok.tis
        rw [← ht, hnew] at hp; cases hp
      · have := f₁.bs.keep _ o ht e
        rw [hnew] at this; cases this
  have hF : F₁ s₁.heap.objs.size = none := by
    cases e : F₁ s₁.heap.objs.size with
    | none => rfl
    | some o => have := b₁.ok.now _ _ e; rw [hnew] at this; cases this
  have ht : s₁.heap.objs.size ≠ X.t := fun e => by obtain ⟨p, hp⟩ := b₁.ok.tis; rw [← e, hnew] at hp; cases hp
  refine for_code it hb 0 s₀ F₀ _ F₁ s₁ F₁ _ (Nat.zero_le _) rfl fA st hnew hs0 hF ht pb.xs fun fl s' Fz' ok xs => q fl s' Fz' ok (b₁.xs.trans xs)
end

/-- the tests of a clause: none or one -/
noncomputable def Ifs (X : Cx) (env : Env) (A : Around) (vm : List (Str × PV)) (k : TS) : List PySem.Expr → Bool → TS → Prop
  | [], b, k' => b = true ∧ k' = k
  | [c], b, k' => EvB X env A vm none k c b k'
  | _, _, _ => False
noncomputable def Sub (vm vm' : List (Str × PV)) : Prop := ∀ n q, vm.lookup n = some q → vm'.lookup n = some q

inductive CompEx (X : Cx) (env : Env) (A : Around) (elt : PySem.Expr) : List Comprehension → List PV → List (Str × PV) → TS → List PV → TS → Prop
  | stop {gs : List Comprehension} {vm : List (Str × PV)} {k : TS} : CompEx X env A elt gs [] vm k [] k
  | skip {g : Comprehension} {gs : List Comprehension} {p : PV} {ps : List PV} {vm vm₁ : List (Str × PV)} {k k₁ : TS} {rs : List PV} {k' : TS} : Asg X env A false none g.target p vm vm₁ → Sub vm vm₁ → Ifs X env A vm₁ k g.ifs false k₁ →
      CompEx X env A elt (g :: gs) ps vm k₁ rs k' → CompEx X env A elt (g :: gs) (p :: ps) vm k rs k'
  | take {g : Comprehension} {p : PV} {ps : List PV} {vm vm₁ : List (Str × PV)} {k k₁ k₂ : TS} {q : PV} {rs : List PV} {k' : TS} : Asg X env A false none g.target p vm vm₁ → Sub vm vm₁ → Ifs X env A vm₁ k g.ifs true k₁ →
      EvE X env A vm₁ none k₁ elt q k₂ → CompEx X env A elt [g] ps vm k₂ rs k' → CompEx X env A elt [g] (p :: ps) vm k (q :: rs) k'
  | deep {g g' : Comprehension} {gs : List Comprehension} {p : PV} {ps : List PV} {vm vm₁ : List (Str × PV)} {k k₁ k₂ k₃ : TS} {pv : PV} {items rs₁ rs : List PV} {k' : TS} : Asg X env A false none g.target p vm vm₁ → Sub vm vm₁ → Ifs X env A vm₁ k g.ifs true k₁ →
      EvE X env A vm₁ none k₁ g'.iter pv k₂ → IterOf X A pv items → (∀ x, foldedSetIterable g'.iter env x = pure x) → CompEx X env A elt (g' :: gs) items vm₁ k₂ rs₁ k₃ → CompEx X env A elt (g :: g' :: gs) ps vm k₃ rs k' →
      CompEx X env A elt (g :: g' :: gs) (p :: ps) vm k (rs₁ ++ rs) k'

/-- the comprehension's frame and what it has gathered -/
structure CS (X : Cx) (s₀ : Shared) (F₀ : FMap) (env : Env) (vm : List (Str × PV)) (k : TS) (Fz : FMap) (s : Shared) (D : Addr) (acc : List PV) : Prop where
  fs : FS X s₀ F₀ env vm none false k Fz s
  li : ∃ vs, s.heap.IsList D vs.toArray ∧ VRs X.t Fz acc vs
  D0 : s₀.heap.get? D = none
  DF : Fz D = none
  Dt : D ≠ X.t

section
variable {X : Cx} {env : Env} {A : Around} {vm vm' vm₁ : List (Str × PV)} {k k₁ k₂ k₃ k' : TS} {s₀ s s' : Shared} {F₀ Fz Fz' : FMap} {D : Addr} {acc : List PV}
theorem CS.step (c : CS X s₀ F₀ env vm k Fz s D acc) (b : BS X s Fz k' Fz' s') : CS X s₀ F₀ env vm k' Fz' s' D acc := by
  obtain ⟨vs, hl, hv⟩ := c.li
  refine ⟨c.fs.step b, ⟨vs, IsList.keeps hl fun o e => b.keep _ o c.Dt e, hv.mono b.ext⟩, c.D0, ?_, c.Dt⟩
  obtain ⟨o, ho, _⟩ := hl
  exact b.none_stays c.DF ho
theorem CS.weaken (c : CS X s₀ F₀ env vm k Fz s D acc) (h : Sub vm' vm) : CS X s₀ F₀ env vm' k Fz s D acc := ⟨c.fs.weaken h, c.li, c.D0, c.DF, c.Dt⟩
theorem CS.asg {tgt : PySem.Expr} {p : PV} {v : Value} (c : CS X s₀ F₀ env vm k Fz s D acc) (ha : Asg X env A false none tgt p vm vm₁) (hv : VR X.t Fz p v) {Q : Unit → Shared → Prop} {E : Value → Shared → Prop}
    (q : ∀ s', CS X s₀ F₀ env vm₁ k Fz s' D acc → AX env s s' → Q () s') : wpAny X.M A (assign tgt env v) Q E s := by
  refine @ha _ _ _ _ _ _ _ _ c.fs hv fun s' f' ax => q s' ⟨f', ?_, c.D0, c.DF, c.Dt⟩ ax
  obtain ⟨vs, ⟨o, ho, hc, n, hd⟩, hvs⟩ := c.li
  obtain ⟨m, cm, r⟩ := c.fs.fr
  obtain ⟨oL, es, ep, hL, hLd⟩ := Ns.obj r.ns
  refine ⟨vs, ⟨o, ax.kp D o (fun e => ?_) (fun n c hc e => ?_) ho, hc, n, hd⟩, hvs⟩
  · subst e; rw [hL] at ho; cases ho; rw [hLd] at hd; cases hd
  · subst e; obtain ⟨oc, h1, h2⟩ := r.cell n _ hc; rw [h1] at ho; cases ho; rw [h2] at hd; cases hd
/-- the iterator moves -/
theorem CS.but (c : CS X s₀ F₀ env vm k Fz s D acc) {I : Addr} {h' : Heap} {tk : Nat} (hs : Heap.ExtBut I s.heap h') (h1 : s₀.heap.get? I = none) (h2 : Fz I = none) (h3 : I ≠ X.t)
    (ho : ∀ o, s.heap.get? I = some o → ∃ vs, o.data = .fields vs) : CS X s₀ F₀ env vm k Fz { s with heap := h', toks := tk } D acc := by
  obtain ⟨vs, ⟨o, hD, hc, n, hd⟩, hvs⟩ := c.li
  refine ⟨c.fs.but hs h1 h2 h3 ho, ⟨vs, ⟨o, hs D o (fun e => ?_) hD, hc, n, hd⟩, hvs⟩, c.D0, c.DF, c.Dt⟩
  subst e
  obtain ⟨ws, q⟩ := ho _ hD
  rw [hd] at q; cases q
theorem CS.append {v : Value} {p : PV} (c : CS X s₀ F₀ env vm k Fz s D acc) (hv : VR X.t Fz p v) (hsz : acc.length ≤ sizeLine) {Q : Value → Shared → Prop} {E : Value → Shared → Prop}
    (q : ∀ s', CS X s₀ F₀ env vm k Fz s' D (acc ++ [p]) → (∀ b o, b ≠ D → s.heap.get? b = some o → s'.heap.get? b = some o) → Q .none s') : wpAny X.M A (call (.builtin "list.append") [.ref D, v]) Q E s := by
  obtain ⟨vs, hl, hvs⟩ := c.li
  refine wpAny_list_append hl (fun h' hl' hs => q _ ?_ fun b o n e => hs.extBut b o n e) (by rw [List.size_toArray, hvs.length]; exact hsz)
  obtain ⟨o, hD, hc, n, hd⟩ := hl
  refine ⟨⟨c.fs.bs.but (tk := s.toks) hs.extBut c.D0 c.DF c.Dt, ?_⟩, ⟨vs ++ [v], by simpa using hl', hvs.append (.one hv)⟩, c.D0, c.DF, c.Dt⟩
  obtain ⟨m, cm, r⟩ := c.fs.fr
  obtain ⟨oL, es, ep, hL, hLd⟩ := Ns.obj r.ns
  refine ⟨m, cm, r.kind, r.glob, r.bui, r.ns.extBut hs.extBut (fun e => ?_), r.Lnew, r.FL, r.Lt, fun n c e => ?_, r.cF, r.cnew, r.apart, r.vars, fun x l e => nomatch e⟩
  · rw [e, hD] at hL; cases hL; rw [hd] at hLd; cases hLd
  · obtain ⟨oc, h1, h2⟩ := r.cell n c e
    exact ⟨oc, hs.extBut c oc (fun z => by subst z; rw [h1] at hD; cases hD; rw [h2] at hd; cases hd) h1, h2⟩

theorem wp_ifs {ifs : List PySem.Expr} {b : Bool} (h : Ifs X env A vm k ifs b k₁) (f : FS X s₀ F₀ env vm none false k Fz s) (Q : Bool → Shared → Prop) (E : Value → Shared → Prop) (q : ∀ s' Fz', BS X s Fz k₁ Fz' s' → Q b s') :
    wpAny X.M A (forIn ifs true fun c r => if r = true then do let ok ← isTrue c env (eval c env); pure (ForInStep.yield ok) else pure (ForInStep.yield r)) Q E s := by
  match ifs, h with
  | [], ⟨h1, h2⟩ => subst h1; subst h2; exact wpAny_tests_nil (q s Fz (BS.refl f.bs.ok))
  | [c], h => exact wpAny_tests_one (@h _ _ _ _ _ f Q E fun v s' F' b r => r ▸ q s' F' b)

/-- one clause's turn -/
noncomputable def turnOf (e elt : PySem.Expr) (gens : List Comprehension) (depth : Nat) (g : Comprehension) (it acc : Value) (env : Env) : Sem Fin := do
  standAt g.iter.pos
  match ← pyNext it with
  | none => pure (.done .next)
  | some v =>
    letOwnedTupleGo g.target it v
    assign g.target env v
    let ok ← forIn g.ifs true fun c r => if r = true then do let ok ← isTrue c env (eval c env); pure (ForInStep.yield ok) else pure (ForInStep.yield r)
    if ok = true then
      match gens[depth + 1]? with
      | some g' => do
        let x ← eval g'.iter env
        standAt g'.iter.pos
        let x ← foldedSetIterable g'.iter env x
        let _ ← runOwn (.compStart e (depth + 1) (← holding [x] (pyIter x)) acc env) env
        again (.compLoop e depth it acc env)
      | none => (do let _ ← call (.builtin "list.append") [acc, ← eval elt env]; pure ()) >>= fun _ => again (.compLoop e depth it acc env)
    else again (.compLoop e depth it acc env)
theorem compTurn_one (elt target iter : PySem.Expr) (ifs : List PySem.Expr) (scope : Scope) (pos : Pos) (it acc : Value) (env : Env) :
    compTurn (.ListComp elt [⟨target, iter, ifs, 0⟩] scope pos) 0 it acc env = turnOf (.ListComp elt [⟨target, iter, ifs, 0⟩] scope pos) elt [⟨target, iter, ifs, 0⟩] 0 ⟨target, iter, ifs, 0⟩ it acc env := by
  rfl
theorem compTurn_two0 (elt t1 i1 t2 i2 : PySem.Expr) (ifs1 ifs2 : List PySem.Expr) (scope : Scope) (pos : Pos) (it acc : Value) (env : Env) :
    compTurn (.ListComp elt [⟨t1, i1, ifs1, 0⟩, ⟨t2, i2, ifs2, 0⟩] scope pos) 0 it acc env = turnOf (.ListComp elt [⟨t1, i1, ifs1, 0⟩, ⟨t2, i2, ifs2, 0⟩] scope pos) elt [⟨t1, i1, ifs1, 0⟩, ⟨t2, i2, ifs2, 0⟩] 0 ⟨t1, i1, ifs1, 0⟩ it acc env := by
  rfl
theorem compTurn_two1 (elt t1 i1 t2 i2 : PySem.Expr) (ifs1 ifs2 : List PySem.Expr) (scope : Scope) (pos : Pos) (it acc : Value) (env : Env) :
    compTurn (.ListComp elt [⟨t1, i1, ifs1, 0⟩, ⟨t2, i2, ifs2, 0⟩] scope pos) 1 it acc env = turnOf (.ListComp elt [⟨t1, i1, ifs1, 0⟩, ⟨t2, i2, ifs2, 0⟩] scope pos) elt [⟨t1, i1, ifs1, 0⟩, ⟨t2, i2, ifs2, 0⟩] 1 ⟨t2, i2, ifs2, 0⟩ it acc env := by
  rfl

structure DX (X : Cx) (env : Env) (D : Addr) (s : Shared) (Fz : FMap) (s' : Shared) (Fz' : FMap) : Prop where
  ext : FExt Fz Fz'
  kx : ∀ b o, b ≠ X.t → b ≠ env.locals → (∀ n c, env.cells.lookup n = some c → b ≠ c) → b ≠ D → s.heap.get? b = some o → s'.heap.get? b = some o
  new : ∀ a o, Fz' a = some o → Fz a = some o ∨ s.heap.get? a = none
  live : ∀ a o, s.heap.get? a = some o → ∃ o', s'.heap.get? a = some o'
theorem DX.refl : DX X env D s Fz s Fz := ⟨.refl _, fun _ _ _ _ _ _ e => e, fun _ _ e => .inl e, fun _ o e => ⟨o, e⟩⟩
theorem DX.trans {s'' : Shared} {Fz'' : FMap} (x : DX X env D s Fz s' Fz') (y : DX X env D s' Fz' s'' Fz'') : DX X env D s Fz s'' Fz'' := by
  refine ⟨x.ext.trans y.ext, fun b o h1 h2 h3 h4 e => y.kx b o h1 h2 h3 h4 (x.kx b o h1 h2 h3 h4 e), fun a o e => ?_, fun a o e => ?_⟩
  · rcases y.new a o e with h | h
    · exact x.new a o h
    · right
      cases q : s.heap.get? a with
      | none => rfl
      | some p => obtain ⟨p', e'⟩ := x.live a p q; rw [h] at e'; cases e'
  · obtain ⟨o', e'⟩ := x.live a o e; exact y.live a o' e'
theorem BS.dx (b : BS X s Fz k Fz' s') : DX X env D s Fz s' Fz' := ⟨b.ext, fun a o h1 _ _ _ e => b.keep a o h1 e, b.new, b.xs (env := env) |>.live⟩
theorem AX.dx (a : AX env s s') : DX X env D s Fz s' Fz := ⟨.refl _, fun b o _ h2 h3 _ e => a.kp b o h2 h3 e, fun _ _ e => .inl e, a.live⟩

noncomputable def TurnIs (e elt : PySem.Expr) (gens : List Comprehension) (env : Env) : Prop := ∀ depth g it acc, gens[depth]? = some g → compTurn e depth it acc env = turnOf e elt gens depth g it acc env
theorem turns_one {elt target iter : PySem.Expr} {ifs : List PySem.Expr} {scope : Scope} {pos : Pos} : TurnIs (.ListComp elt [⟨target, iter, ifs, 0⟩] scope pos) elt [⟨target, iter, ifs, 0⟩] env := by
  intro depth g it acc h
  match depth with
  | 0 => cases h; exact compTurn_one ..
  | n + 1 => cases h
theorem turns_two {elt t1 i1 t2 i2 : PySem.Expr} {ifs1 ifs2 : List PySem.Expr} {scope : Scope} {pos : Pos} : TurnIs (.ListComp elt [⟨t1, i1, ifs1, 0⟩, ⟨t2, i2, ifs2, 0⟩] scope pos) elt [⟨t1, i1, ifs1, 0⟩, ⟨t2, i2, ifs2, 0⟩] env := by
  intro depth g it acc h
  match depth with
  | 0 => cases h; exact compTurn_two0 ..
  | 1 => cases h; exact compTurn_two1 ..
  | n + 2 => cases h

theorem start_code {elt : PySem.Expr} {gens : List Comprehension} {scope : Scope} {pos : Pos} {depth : Nat} {g : Comprehension} {it acc : Value} {R : Result → Shared → Prop} (hg : gens[depth]? = some g) (ha : g.is_async = 0)
    (h0 : codeAny X.M A (.compLoop (.ListComp elt gens scope pos) depth it acc env) R s)
    (h : ∀ E, wpAny X.M A (pyIter it) (fun it' s' => codeAny X.M A (.compLoop (.ListComp elt gens scope pos) depth it' acc env) R s') E s) :
    codeAny X.M A (.compStart (.ListComp elt gens scope pos) depth it acc env) R s := by
  refine codeAny_of_tree ?_
  show wpAny _ _ ((compStart (.ListComp elt gens scope pos) depth it acc env).onRaise (fun x => do noteFrame x env; standAt theWindowsPlace)) _ _ s
  refine wpAny_notedAt ?_
  unfold compStart
  rw [show (clausesOf (.ListComp elt gens scope pos))[depth]? = some g from hg]
  simp only [Option.elim, ha]
  show wpAny _ _ (ask >>= _) _ _ s
  refine wpAny_bind (wpAny_askSetting (wpAny_ite ?_))
  split
  · first
      | exact wpAny_bind (wpAny_pure (wpAny_pure (And.intro rfl h0)))
      | exact wpAny_pure (And.intro rfl h0)
  · refine wpAny_bind (wpAny_rule ?_)
    show wpAny _ _ (standAt g.iter.pos >>= _) _ _ s
    exact wpAny_bind (wpAny_standAt (wpAny_bind (wpAny_mono (h _) (fun it' s' h' => wpAny_pure (And.intro rfl h')) fun _ _ x => x)))

theorem comp_code {elt : PySem.Expr} {gens : List Comprehension} {scope : Scope} {pos : Pos} (T : TurnIs (.ListComp elt gens scope pos) elt gens env) (hga : ∀ g ∈ gens, g.is_async = 0) {gs : List Comprehension} {ps rs : List PV}
    (h : CompEx X env A elt gs ps vm k rs k') : ∀ (depth : Nat) (I : Addr) (items : List PV) (St : Nat → FMap → Heap → Prop) (i : Nat) s₀ F₀ s Fz D acc sA FA (R : Result → Shared → Prop), gs ≠ [] → gens.drop depth = gs → It X A I items St → i ≤ items.length → items.drop i = ps →
      CS X s₀ F₀ env vm k Fz s D acc → St i Fz s.heap → sA.heap.get? I = none → s₀.heap.get? I = none → Fz I = none → I ≠ X.t → DX X env D sA FA s Fz → acc.length + rs.length ≤ sizeLine →
      (∀ s' Fz', CS X s₀ F₀ env vm k' Fz' s' D (acc ++ rs) → DX X env D sA FA s' Fz' → R (.ok .next) s') → codeAny X.M A (.compLoop (.ListComp elt gens scope pos) depth (.ref I) (.ref D) env) R s := by
  have hobj : ∀ {I items St i F} {s : Shared}, It X A I items St → St i F s.heap → ∀ o, s.heap.get? I = some o → ∃ vs, o.data = .fields vs := fun it st o e => by
    obtain ⟨o', T, vs, h1, h2, h3, _⟩ := it.obj _ _ _ st
    rw [h1] at e; cases e; exact ⟨vs, h3⟩
  have keepI : ∀ {I items St i F D acc vm k s₀ F₀ F' s'} {s : Shared}, It X A I items St → CS X s₀ F₀ env vm k F s D acc → St i F s.heap → F I = none → I ≠ X.t → DX X env D s F s' F' → (∀ a o, F' a = some o → s'.heap.get? a = some o) → St i F' s'.heap ∧ F' I = none := by
    intro I items St i F D acc vm k s₀ F₀ F' s' s it c st hF ht dx now
    obtain ⟨oI, T, vs, hI, hc, hdI, _, hT⟩ := it.obj _ _ _ st
    obtain ⟨m, cm, r⟩ := c.fs.fr
    obtain ⟨oL, es, ep, hL, hLd⟩ := Ns.obj r.ns
    obtain ⟨ws, ⟨oD, hD, hDc, nD, hDd⟩, _⟩ := c.li
    have hI' : s'.heap.get? I = some oI := by
      refine dx.kx I oI ht (fun e => ?_) (fun n c hc e => ?_) (fun e => ?_) hI
      · subst e; rw [hL] at hI; cases hI; rw [hLd] at hdI; cases hdI
      · subst e; obtain ⟨oc, h1, h2⟩ := r.cell n _ hc; rw [h1] at hI; cases hI; rw [h2] at hdI; cases hdI
      · subst e; rw [hD] at hI; cases hI; rw [hDd] at hdI; cases hdI
    refine ⟨it.frame _ _ _ _ _ st c.fs.bs.ok.now dx.ext now fun o ho => ?_, ?_⟩
    · rw [hI] at ho; cases ho; exact hI'
    · cases e : F' I with
      | none => rfl
      | some o' =>
        rcases dx.new I o' e with h | h
        · rw [hF] at h; cases h
        · rw [hI] at h; cases h
  have dbut : ∀ {I D sA FA Fz h' tk} {s : Shared}, sA.heap.get? I = none → DX X env D sA FA s Fz → Heap.ExtBut I s.heap h' → DX X env D sA FA { s with heap := h', toks := tk } Fz := by
    intro I D sA FA Fz h' tk s hA dx he
    refine ⟨dx.ext, fun b o q1 q2 q3 q4 e => he b o (fun z => ?_) (dx.kx b o q1 q2 q3 q4 e), dx.new, fun a o e => ?_⟩
    · subst z; rw [hA] at e; cases e
    · obtain ⟨o', e'⟩ := dx.live a o e
      exact ⟨o', he a o' (fun z => by subst z; rw [hA] at e; cases e) e'⟩
  -- a turn's beginning, to the tests' end
  have begin_ : ∀ {I items St} (it : It X A I items St) {i : Nat} {p : PV} {ps : List PV} {g : Comprehension} {vm vm₁ : List (Str × PV)} {k k₁ : TS} {b : Bool} {s₀ F₀ s Fz D acc sA FA} {B : Bool → Sem Fin} {Q : Fin → Shared → Prop} {E : Value → Shared → Prop},
      items.drop i = p :: ps → CS X s₀ F₀ env vm k Fz s D acc → St i Fz s.heap → sA.heap.get? I = none → s₀.heap.get? I = none → Fz I = none → I ≠ X.t → DX X env D sA FA s Fz → Asg X env A false none g.target p vm vm₁ → Ifs X env A vm₁ k g.ifs b k₁ →
      (∀ s₂ F₂, CS X s₀ F₀ env vm₁ k₁ F₂ s₂ D acc → St (i + 1) F₂ s₂.heap → F₂ I = none → DX X env D sA FA s₂ F₂ → wpAny X.M A (B b) Q E s₂) →
      wpAny X.M A (do
        standAt g.iter.pos
        match ← pyNext (.ref I) with
        | none => pure (.done .next)
        | some v => do
          letOwnedTupleGo g.target (.ref I) v
          assign g.target env v
          let ok ← forIn g.ifs true fun c r => if r = true then do let ok ← isTrue c env (eval c env); pure (ForInStep.yield ok) else pure (ForInStep.yield r)
          B ok) Q E s := by
    intro I items St it i p ps g vm vm₁ k k₁ b s₀ F₀ s Fz D acc sA FA B Q E hd c st hA h0 hF ht dx ha hi kk
    have hp : items[i]? = some p := by
      have : (items.drop i)[0]? = some p := by rw [hd]; rfl
      simpa using this
    refine wpAny_bind (wpAny_standAt (wpAny_bind (it.item i Fz s _ _ p hp st fun v h' tk hv st' he => ?_)))
    have c₁ : CS X s₀ F₀ env vm k Fz { s with heap := h', toks := tk } D acc := c.but he h0 hF ht (hobj it st)
    refine wpAny_bind (letGo_it it (s := { s with heap := h', toks := tk }) st' (wpAny_bind (c₁.asg ha hv fun s₂ c₂ ax => ?_)))
    obtain ⟨st₂, hF₂⟩ := keepI (s := { s with heap := h', toks := tk }) it c₁ st' hF ht (ax.dx (X := X) (D := D) (Fz := Fz)) c₂.fs.bs.ok.now
    refine wpAny_bind (wp_ifs hi c₂.fs _ _ fun s₃ F₃ bs => ?_)
    obtain ⟨st₃, hF₃⟩ := keepI it c₂ st₂ hF₂ ht (bs.dx (env := env) (D := D)) bs.ok.now
    exact kk s₃ F₃ (c₂.step bs) st₃ hF₃ (((dbut hA dx he).trans ax.dx).trans bs.dx)
  have next_ : ∀ {items : List PV} {i : Nat} {p : PV} {ps : List PV}, items.drop i = p :: ps → i + 1 ≤ items.length ∧ items.drop (i + 1) = ps := by
    intro items i p ps hd
    refine ⟨?_, ?_⟩
    · have := congrArg List.length hd; simp at this; omega
    · rw [← List.drop_drop, hd]; rfl
  have head_ : ∀ {depth : Nat} {g : Comprehension} {gs : List Comprehension}, gens.drop depth = g :: gs → gens[depth]? = some g ∧ gens[depth + 1]? = gs[0]? ∧ gens.drop (depth + 1) = gs := by
    intro depth g gs hd
    have h1 : (gens.drop depth)[0]? = some g := by rw [hd]; rfl
    have h2 : (gens.drop depth)[1]? = gs[0]? := by rw [hd]; rfl
    refine ⟨by simpa using h1, by simpa using h2, ?_⟩
    rw [← List.drop_drop, hd]; rfl
  induction h with
  | @stop gs vm k =>
    intro depth I items St i s₀ F₀ s Fz D acc sA FA R hne hgd it hle hd c st hA h0 hF ht dx hsz q
    cases gs with
    | nil => exact absurd rfl hne
    | cons g gs =>
    obtain ⟨hg, _, _⟩ := head_ hgd
    refine codeAny_of_tree ?_
    show wpAny X.M A ((compTurn (.ListComp elt gens scope pos) depth (.ref I) (.ref D) env).onRaise (fun x => do noteFrame x env; theTreesLotGoes x)) _ _ s
    refine wpAny_noted ?_
    rw [T _ _ _ _ hg]
    unfold turnOf
    have hi : items.length ≤ i := by simpa using hd
    have st' : St items.length Fz s.heap := by rw [Nat.le_antisymm hi hle]; exact st
    refine wpAny_bind (wpAny_standAt (wpAny_bind (it.done Fz s _ _ st' fun h' tk he => ?_)))
    exact wpAny_pure (q _ Fz (by rw [List.append_nil]; exact c.but he h0 hF ht (hobj it st)) (dbut hA dx he))
  | @skip g gs p ps vm vm₁ k k₁ rs k' ha hsub hi _ ih =>
    intro depth I items St i s₀ F₀ s Fz D acc sA FA R hne hgd it hle hd c st hA h0 hF ht dx hsz q
    obtain ⟨hg, _, _⟩ := head_ hgd
    refine codeAny_of_tree ?_
    show wpAny X.M A ((compTurn (.ListComp elt gens scope pos) depth (.ref I) (.ref D) env).onRaise (fun x => do noteFrame x env; theTreesLotGoes x)) _ _ s
    refine wpAny_noted ?_
    rw [T _ _ _ _ hg]
    unfold turnOf
    refine begin_ it hd c st hA h0 hF ht dx ha hi fun s₂ F₂ c₂ st₂ hF₂ dx₂ => ?_
    rw [if_neg (by decide)]
    obtain ⟨n1, n2⟩ := next_ hd
    exact wpAny_pure ⟨rfl, ih depth I items St (i + 1) s₀ F₀ s₂ F₂ D acc sA FA R (by simp) hgd it n1 n2 (c₂.weaken hsub) st₂ hA h0 hF₂ ht dx₂ hsz q⟩
  | @take g p ps vm vm₁ k k₁ k₂ qv rs k' ha hsub hi he _ ih =>
    intro depth I items St i s₀ F₀ s Fz D acc sA FA R hne hgd it hle hd c st hA h0 hF ht dx hsz q
    obtain ⟨hg, hg1, _⟩ := head_ hgd
    refine codeAny_of_tree ?_
    show wpAny X.M A ((compTurn (.ListComp elt gens scope pos) depth (.ref I) (.ref D) env).onRaise (fun x => do noteFrame x env; theTreesLotGoes x)) _ _ s
    refine wpAny_noted ?_
    rw [T _ _ _ _ hg]
    unfold turnOf
    refine begin_ it hd c st hA h0 hF ht dx ha hi fun s₂ F₂ c₂ st₂ hF₂ dx₂ => ?_
    rw [if_pos rfl, show gens[depth + 1]? = none from hg1]
    obtain ⟨n1, n2⟩ := next_ hd
    simp only [List.length_cons] at hsz
    refine wpAny_bind (wpAny_bind (@he _ _ _ _ _ c₂.fs _ _ fun v s₃ F₃ b₃ hv => wpAny_bind ((c₂.step b₃).append hv (by omega) fun s₄ c₄ k₄ => wpAny_pure (wpAny_pure ⟨rfl, ?_⟩))))
    obtain ⟨st₃, hF₃⟩ := keepI it c₂ st₂ hF₂ ht (b₃.dx (env := env) (D := D)) b₃.ok.now
    have dx₄ : DX X env D s₃ F₃ s₄ F₃ := ⟨.refl _, fun b o _ _ _ h4 e => k₄ b o h4 e, fun _ _ e => .inl e, fun a o e => by
      by_cases z : a = D
      · subst z; obtain ⟨ws, ⟨oD, hD, _⟩, _⟩ := c₄.li; exact ⟨oD, hD⟩
      · exact ⟨o, k₄ a o z e⟩⟩
    obtain ⟨st₄, hF₄⟩ := keepI it (c₂.step b₃) st₃ hF₃ ht dx₄ c₄.fs.bs.ok.now
    exact ih depth I items St (i + 1) s₀ F₀ s₄ F₃ D (acc ++ [qv]) sA FA R (by simp) hgd it n1 n2 (c₄.weaken hsub) st₄ hA h0 hF₄ ht ((dx₂.trans b₃.dx).trans dx₄) (by simp; omega) fun s' F' c' d' => q s' F' (by simpa using c') d'
  | @deep g g' gs p ps vm vm₁ k k₁ k₂ k₃ pv items' rs₁ rs k' ha hsub hi he hit hfold _ _ ih₁ ih₂ =>
    intro depth I items St i s₀ F₀ s Fz D acc sA FA R hne hgd it hle hd c st hA h0 hF ht dx hsz q
    obtain ⟨hg, hg1, hgd1⟩ := head_ hgd
    have hg1' : gens[depth + 1]? = some g' := hg1
    refine codeAny_of_tree ?_
    show wpAny X.M A ((compTurn (.ListComp elt gens scope pos) depth (.ref I) (.ref D) env).onRaise (fun x => do noteFrame x env; theTreesLotGoes x)) _ _ s
    refine wpAny_noted ?_
    rw [T _ _ _ _ hg]
    unfold turnOf
    refine begin_ it hd c st hA h0 hF ht dx ha hi fun s₂ F₂ c₂ st₂ hF₂ dx₂ => ?_
    rw [if_pos rfl, hg1']
    obtain ⟨n1, n2⟩ := next_ hd
    simp only [List.length_append] at hsz
    refine wpAny_bind (@he _ _ _ _ _ c₂.fs _ _ fun v s₃ F₃ b₃ hv => wpAny_bind (wpAny_standAt (wpAny_bind (wpAny_of_eq (hfold v) (wpAny_bind (wpAny_holding ?_))))))
    have c₃ := c₂.step b₃
    obtain ⟨st₃, hF₃⟩ := keepI it c₂ st₂ hF₂ ht (b₃.dx (env := env) (D := D)) b₃.ok.now
    refine hit s₃ F₃ _ v b₃.ok hv _ _ fun I' St' ob it' hI' hf st' => ?_
    subst hI'
    have hnew := get_size s₃.heap
    have pb : BS X s₃ F₃ k₂ F₃ { s₃ with heap := s₃.heap.push ob } := PS.bs ⟨⟨_, _, rfl⟩, fun b o e => Heap.get?_push_of_some _ e⟩ b₃.ok
    have c₄ := c₃.step pb
    obtain ⟨st₄, hF₄⟩ := keepI it c₃ st₃ hF₃ ht (pb.dx (env := env) (D := D)) pb.ok.now
    have htI : s₃.heap.objs.size ≠ X.t := fun e => by obtain ⟨p, hp⟩ := b₃.ok.tis; rw [← e, hnew] at hp; cases hp
    have hs0 : s₀.heap.get? s₃.heap.objs.size = none := by
      cases e : s₀.heap.get? s₃.heap.objs.size with
      | none => rfl
      | some o => have := c₃.fs.bs.keep _ o htI e; rw [hnew] at this; cases this
    have hF3 : F₃ s₃.heap.objs.size = none := by
      cases e : F₃ s₃.heap.objs.size with
      | none => rfl
      | some o => have := b₃.ok.now _ _ e; rw [hnew] at this; cases this
    have loop : codeAny X.M A (.compLoop (.ListComp elt gens scope pos) (depth + 1) (.ref s₃.heap.objs.size) (.ref D) env) (fun r s' => match r with
        | .ok f => wpAny X.M A (again (.compLoop (.ListComp elt gens scope pos) depth (.ref I) (.ref D) env)) (fun fin s' => match fin with | .done f => R (.ok f) s' | .again c' => c'.quiet = true ∧ codeAny X.M A c' R s') (notedBy X.M A env fun e s' => R (.error e) s') s'
        | .error e => cameBackBy X.M A env (notedBy X.M A env fun e s' => R (.error e) s') e s') { s₃ with heap := s₃.heap.push ob } := by
      refine ih₁ (depth + 1) s₃.heap.objs.size items' St' 0 s₀ F₀ _ F₃ D acc s₃ F₃ _ (by simp) hgd1 it' (Nat.zero_le _) rfl c₄ st' hnew hs0 hF3 htI pb.dx (by omega) fun s₅ F₅ c₅ d₅ => ?_
      obtain ⟨st₅, hF₅⟩ := keepI it c₃ st₃ hF₃ ht d₅ c₅.fs.bs.ok.now
      refine wpAny_pure ⟨rfl, ih₂ depth I items St (i + 1) s₀ F₀ s₅ F₅ D (acc ++ rs₁) sA FA R (by simp) hgd it n1 n2 (c₅.weaken hsub) st₅ hA h0 hF₅ ht ((dx₂.trans b₃.dx).trans d₅) (by simp; omega) fun s' F' c' d' => q s' F' (by simpa using c') d'⟩
    refine wpAny_bind (wpAny_runOwn (start_code hg1' (hga _ (List.mem_of_getElem? hg1')) loop fun E => it'.self 0 F₃ _ _ E st' loop))
end

noncomputable def scopeOk (sc : Scope) : Bool := sc.kind == .function && sc.names.all fun x => x.2 != .cell && (x.2 != .local || sc.names.lookup x.1 == some .local)
noncomputable def isC : Option NameKind → Bool
  | some .cell => true
  | some .free => true
  | _ => false
noncomputable def SubC (cells : List (Str × Addr)) : List (Str × Addr) → Prop
  | [] => True
  | (n, c) :: r => cells.lookup n = some c ∧ r.lookup n = none ∧ SubC cells r
noncomputable def Cap (vm : List (Str × PV)) (env : Env) (names : List (Str × NameKind)) (cl : List (Str × Addr)) : List (Str × PV) → Prop
  | [] => True
  | (n, p) :: r => vm.lookup n = some p ∧ isC (env.kindOf n) = true ∧ isC (names.lookup n) = true ∧ (∃ c, cl.lookup n = some c) ∧ Cap vm env names cl r

theorem lookup_mem {α : Type} : ∀ {l : List (Str × α)} {n : Str} {c : α}, (n, c) ∈ l → ∃ c', l.lookup n = some c'
  | (k, v) :: r, n, c, h => by
    rw [List.lookup_cons]
    cases hb : n == k with
    | true => exact ⟨v, rfl⟩
    | false =>
      rcases List.mem_cons.mp h with e | h
      · cases e; simp at hb
      · exact lookup_mem h
theorem SubC.get {cells : List (Str × Addr)} : ∀ {cl : List (Str × Addr)}, SubC cells cl → ∀ {n : Str} {c : Addr}, cl.lookup n = some c → cells.lookup n = some c
  | (k, v) :: r, h, n, c, e => by
    rw [List.lookup_cons] at e
    cases hb : n == k with
    | true => rw [hb] at e; cases e; rw [beq_iff_eq.mp hb]; exact h.1
    | false => rw [hb] at e; exact h.2.2.get e
theorem SubC.mem {cells : List (Str × Addr)} : ∀ {cl : List (Str × Addr)}, SubC cells cl → ∀ {n : Str} {c : Addr}, (n, c) ∈ cl → cells.lookup n = some c
  | (k, v) :: r, h, n, c, e => by
    rcases List.mem_cons.mp e with q | q
    · cases q; exact h.1
    · exact h.2.2.mem q
theorem SubC.apart {cells : List (Str × Addr)} (hp : cells.Pairwise fun x y => x.2 ≠ y.2) : ∀ {cl : List (Str × Addr)}, SubC cells cl → cl.Pairwise fun x y => x.2 ≠ y.2
  | [], _ => .nil
  | (k, v) :: r, h => by
    refine List.pairwise_cons.mpr ⟨fun y hy e => ?_, h.2.2.apart hp⟩
    have h1 := mem_of_lookup h.1
    have h2 := mem_of_lookup (h.2.2.mem (n := y.1) (c := y.2) hy)
    have e' : v = y.2 := e
    have : k = y.1 := name_of_addr hp h1 (e' ▸ h2)
    obtain ⟨c', hc'⟩ := lookup_mem (l := r) (n := y.1) (c := y.2) hy
    rw [← this, h.2.1] at hc'; cases hc'
theorem Cap.get {vm : List (Str × PV)} {env : Env} {names : List (Str × NameKind)} {cl : List (Str × Addr)} : ∀ {vmc : List (Str × PV)}, Cap vm env names cl vmc → ∀ {n : Str} {p : PV}, vmc.lookup n = some p →
    vm.lookup n = some p ∧ isC (env.kindOf n) = true ∧ isC (names.lookup n) = true ∧ ∃ c, cl.lookup n = some c
  | (k, v) :: r, h, n, p, e => by
    rw [List.lookup_cons] at e
    cases hb : n == k with
    | true => rw [hb] at e; cases e; rw [beq_iff_eq.mp hb]; exact ⟨h.1, h.2.1, h.2.2.1, h.2.2.2.1⟩
    | false => rw [hb] at e; exact h.2.2.2.2.get e
theorem isC_iff {o : Option NameKind} (h : isC o = true) : o = some .cell ∨ o = some .free := by
  unfold isC at h
  split at h
  · exact .inl rfl
  · exact .inr rfl
  · cases h
theorem relabel_isC {scope : Scope} {env : Env} {n : Str} (h : isC (scope.names.lookup n) = true) : isC ((relabel scope env).names.lookup n) = true := by
  unfold relabel
  dsimp only
  generalize scope.names = l at h
  induction l with
  | nil => simp [isC] at h
  | cons x r ih =>
    obtain ⟨k, kind⟩ := x
    rw [List.map_cons, List.lookup_cons]
    rw [List.lookup_cons] at h
    by_cases hc : (kind == NameKind.free && env.scope.kind == .function && env.kindOf k == some .cell) = true
    · rw [if_pos hc]
      cases hb : n == k with
      | true => simp [isC]
      | false => rw [hb] at h; exact ih h
    · rw [if_neg hc]
      cases hb : n == k with
      | true => rw [hb] at h; exact h
      | false => rw [hb] at h; exact ih h

section
variable {X : Cx} {env : Env} {A : Around} {vm vmc vm' vm₁ : List (Str × PV)} {gl : Option (Str × List PV)} {k k₁ k₂ k₃ k' : TS} {s₀ s s' : Shared} {F₀ Fz Fz' : FMap} {D : Addr} {acc : List PV}

/-- the comprehension's block, from the first iterable's value on -/
theorem comp_block {elt : PySem.Expr} {g : Comprehension} {gs : List Comprehension} {scope : Scope} {pos : Pos} {cl : List (Str × Addr)} {p : PV} {items rs : List PV} {own : Bool}
    (T : ∀ C, TurnIs (.ListComp elt (g :: gs) scope pos) elt (g :: gs) (compEnvC scope cl C env)) (hga : ∀ c ∈ g :: gs, c.is_async = 0)
    (hok : scopeOk scope = true) (hcl : SubC env.cells cl) (hcap : Cap vm env scope.names cl vmc) (hi : IterOf X A p items)
    (hc : ∀ C, CompEx X (compEnvC scope cl C env) A elt (g :: gs) items vmc k rs k') (hsz : rs.length ≤ sizeLine)
    {s₁ : Shared} {F₁ : FMap} (f₁ : FS X s₀ F₀ env vm gl own k F₁ s₁) {v : Value} (hv : VR X.t F₁ p v) (E : Value → Shared → Prop) (RR : Value → Addr → Result → Shared → Prop)
    (q : ∀ D C s' F' vs, BS X s₁ F₁ k' F' s' → (∃ m, s'.heap.Ns C m) → s₁.heap.get? C = none → F' C = none → C ≠ X.t → s'.heap.IsList D vs → VRs X.t F' rs vs.toList → s₁.heap.get? D = none → F' D = none → D ≠ X.t → RR (.ref D) C (.ok .next) s') :
    wpAny X.M A (pyIter v) (fun it s₂ => wpAny X.M A (newList []) (fun acc s₃ => wpAny X.M A (newFunctionEnv scope env.globals cl [] env.qual none .none (some env)) (fun cenv s₄ =>
      codeAny X.M A (.compStart (.ListComp elt (g :: gs) scope pos) 0 it acc { cenv with scope := relabel scope env }) (RR acc cenv.locals) s₄) E s₃) E s₂) E s₁ := by
  unfold scopeOk at hok
  rw [Bool.and_eq_true] at hok
  obtain ⟨hkd, hnm⟩ := hok
  have hkind : scope.kind = .function := beq_iff_eq.mp hkd
  have hcell : ∀ y ∈ scope.names, y.2 ≠ .cell := fun y hy => by
    have := List.all_eq_true.mp hnm y hy
    rw [Bool.and_eq_true] at this
    simpa using this.1
  refine hi s₁ F₁ _ v f₁.bs.ok hv _ _ fun I St ob it hI hf st => ?_
  subst hI
  refine wpAny_newObj_type (wpAny_newFunctionEnv hcell (by intro y hy; simp at hy) (fun h₁ hns hsb => ?_) hkind)
  dsimp only at hns hsb ⊢
  obtain ⟨m, cm, r⟩ := f₁.fr
  have hnew := get_size s₁.heap
  generalize hH1 : s₁.heap.push ob = H1 at hns hsb st ⊢
  have e1 : H1.objs.size = s₁.heap.objs.size + 1 := by rw [← hH1, Heap.size_push]
  generalize hH2 : H1.push { cls := .type "list", dict := none, data := .seq ([] : List Value).toArray } = H2 at hns hsb ⊢
  have e2 : H2.objs.size = s₁.heap.objs.size + 2 := by rw [← hH2, Heap.size_push, e1]
  have old : ∀ b o, s₁.heap.get? b = some o → h₁.get? b = some o := fun b o e => by
    have hb := Heap.lt_size e
    exact hsb.extBut b o (by rw [e2]; exact Nat.ne_of_lt (Nat.lt_succ_of_lt (Nat.lt_succ_of_lt hb))) (Heap.get?_push_of_some _ (hH2 ▸ Heap.get?_push_of_some _ (hH1 ▸ Heap.get?_push_of_some _ e)))
  have fresh : ∀ a, s₁.heap.objs.size ≤ a → s₁.heap.get? a = none := fun a ha => by
    cases e : s₁.heap.get? a with
    | none => rfl
    | some o' => exact absurd (Heap.lt_size e) (Nat.not_lt.mpr ha)
  have freshF : ∀ a, s₁.heap.objs.size ≤ a → F₁ a = none := fun a ha => by
    cases e : F₁ a with
    | none => rfl
    | some o' => exact absurd (Heap.lt_size (f₁.bs.ok.now _ _ e)) (Nat.not_lt.mpr ha)
  have freshT : ∀ a, s₁.heap.objs.size ≤ a → a ≠ X.t := fun a ha e => by
    obtain ⟨o, ho⟩ := f₁.bs.ok.tis
    exact absurd (Heap.lt_size ho) (Nat.not_lt.mpr (e ▸ ha))
  have hD : h₁.get? H1.objs.size = some { cls := .type "list", dict := none, data := .seq ([] : List Value).toArray } := hsb.extBut _ _ (by rw [e1, e2]; exact Nat.ne_of_lt (Nat.lt_succ_self _)) (Heap.get?_push_of_some _ (hH2 ▸ Heap.get?_push_size _ rfl))
  have pb : BS X s₁ F₁ k F₁ { s₁ with heap := h₁, toks := s₁.toks + ([] : List (Str × Value)).length } := PS.bs ⟨⟨_, _, rfl⟩, old⟩ f₁.bs.ok
  have dlt : s₁.heap.objs.size ≤ H1.objs.size := by rw [e1]; exact Nat.le_succ _
  have clt : s₁.heap.objs.size ≤ H2.objs.size := by rw [e2]; exact Nat.le_add_right _ _
  have cnr : ∀ n c, cl.lookup n = some c → c < s₁.heap.objs.size := fun n c e => by
    obtain ⟨oc, ho, _⟩ := r.cell n c (hcl.get e); exact Heap.lt_size ho
  have cs : CS X s₁ F₁ (compEnvC scope cl H2.objs.size env) vmc k F₁ { s₁ with heap := h₁, toks := s₁.toks + ([] : List (Str × Value)).length } H1.objs.size [] := by
    refine ⟨⟨pb, fun x => ([] : List (Str × Value)).reverse.lookup x, cm, hkind, r.glob, r.bui, hns, fresh _ clt, freshF _ clt, freshT _ clt, fun n c e => ?_, fun n c e => ?_, fun e => (nomatch e), hcl.apart r.apart, fun n pv e => ?_, fun _ _ e => nomatch e⟩, ⟨[], ⟨_, hD, rfl, _, rfl⟩, by simp only [VRs]⟩, fresh _ dlt, freshF _ dlt, freshT _ dlt⟩
    · obtain ⟨oc, ho, hd⟩ := r.cell n c (hcl.get e)
      exact ⟨oc, old c oc ho, hd⟩
    · have := r.cF n c (hcl.get e)
      refine ⟨this.1, this.2.1, fun z => ?_⟩
      have := cnr n c e
      rw [z] at this
      exact absurd this (Nat.not_lt.mpr clt)
    · obtain ⟨h1, h2, h3, c, h4⟩ := hcap.get e
      obtain ⟨u, hu, hh⟩ := r.vars n pv h1
      refine ⟨u, hu, .inr ⟨isC_iff (relabel_isC h3), c, h4, ?_⟩⟩
      have h5 := isC_iff h2
      rcases hh with ⟨z, _⟩ | ⟨_, c', z1, z2⟩
      · rw [z] at h5; rcases h5 with h5 | h5 <;> cases h5
      · exact z2
  have dx0 : DX X (compEnvC scope cl H2.objs.size env) H1.objs.size s₁ F₁ { s₁ with heap := h₁, toks := s₁.toks + ([] : List (Str × Value)).length } F₁ := pb.dx
  have st₁ : St 0 F₁ h₁ := it.frame _ _ _ _ _ st (fun a o e => hH1 ▸ Heap.get?_push_of_some _ (f₁.bs.ok.now a o e)) (.refl _) (fun a o e => old a o (f₁.bs.ok.now a o e)) fun o e =>
    hsb.extBut _ o (by rw [e2]; exact Nat.ne_of_lt (Nat.lt_succ_of_lt (Nat.lt_succ_self _))) (Heap.get?_push_of_some _ (hH2 ▸ Heap.get?_push_of_some _ e))
  have loop : codeAny X.M A (.compLoop (.ListComp elt (g :: gs) scope pos) 0 (.ref s₁.heap.objs.size) (.ref H1.objs.size) (compEnvC scope cl H2.objs.size env)) (RR (.ref H1.objs.size) H2.objs.size)
      { s₁ with heap := h₁, toks := s₁.toks + ([] : List (Str × Value)).length } := by
    refine comp_code (T _) hga (hc _) 0 s₁.heap.objs.size items St 0 s₁ F₁ _ F₁ H1.objs.size [] s₁ F₁ _ (by simp) rfl it (Nat.zero_le _) rfl cs st₁ (fresh _ (Nat.le_refl _)) (fresh _ (Nat.le_refl _)) (freshF _ (Nat.le_refl _)) (freshT _ (Nat.le_refl _)) dx0 (by simpa using hsz) fun s' F' c' _ => ?_
    obtain ⟨ws, hl, hws⟩ := c'.li
    obtain ⟨m', _, r'⟩ := c'.fs.fr
    exact q H1.objs.size H2.objs.size s' F' ws.toArray c'.fs.bs ⟨m', r'.ns⟩ (fresh _ clt) r'.FL (freshT _ clt) hl (by simpa using hws) (fresh _ dlt) c'.DF c'.Dt
  exact start_code (g := g) rfl (hga _ List.mem_cons_self) loop fun E => it.self 0 F₁ _ _ E st₁ loop

theorem scopeOk_spec {scope : Scope} (hok : scopeOk scope = true) : scope.kind = .function ∧ ∀ x ∈ scope.names, x.2 = .local → scope.names.lookup x.1 = some .local := by
  unfold scopeOk at hok
  rw [Bool.and_eq_true] at hok
  refine ⟨beq_iff_eq.mp hok.1, fun x hx hl => ?_⟩
  have := List.all_eq_true.mp hok.2 x hx
  rw [Bool.and_eq_true, Bool.or_eq_true] at this
  rcases this.2 with h | h
  · simp [hl] at h
  · exact beq_iff_eq.mp h

theorem ev_comp {elt : PySem.Expr} {g : Comprehension} {gs : List Comprehension} {scope : Scope} {pos : Pos} {cl : List (Str × Addr)} {p : PV} {items rs : List PV} (h : EvE X env A vm gl k g.iter p k₁)
    (T : ∀ C, TurnIs (.ListComp elt (g :: gs) scope pos) elt (g :: gs) (compEnvC scope cl C env)) (hga : ∀ c ∈ g :: gs, c.is_async = 0) (hclos : closureFor scope env = pure cl)
    (hok : scopeOk scope = true) (hcl : SubC env.cells cl) (hcap : Cap vm env scope.names cl vmc) (hi : IterOf X A p items)
    (hc : ∀ C, CompEx X (compEnvC scope cl C env) A elt (g :: gs) items vmc k₁ rs k') (hsz : rs.length ≤ sizeLine)
    (hs : ∀ x, foldedSetIterable g.iter env x = pure x := by intro _; rfl) :
    EvE X env A vm gl k (.ListComp elt (g :: gs) scope pos) (.list rs) k' := by
  intro own s₀ F₀ s Fz f Q E qq
  obtain ⟨hkind, hnames⟩ := scopeOk_spec hok
  obtain ⟨gt, gi, gf, ga⟩ := g
  obtain rfl : ga = 0 := hga _ List.mem_cons_self
  rw [eval_ListComp]
  refine wpAny_comprehension_free (use := none) rfl hs hclos hkind hnames ?_
  show wpAny X.M A (eval gi env) _ E s
  refine @h _ _ _ _ _ f _ E fun v s₁ F₁ b₁ r₁ => ?_
  refine comp_block T hga hok hcl hcap hi hc hsz (f.step b₁) r₁ E (fun acc C => compPost X.M A E none Q acc C) fun D C s' F' vs b hn hC0 hCF hCt hl hvs hD0 hDF hDt => ?_
  obtain ⟨m', hn⟩ := hn
  refine ⟨m', hn, fun h' hsb => ?_⟩
  have hDC : D ≠ C := fun e => by
    subst e
    obtain ⟨o, ho, _, n, hd⟩ := hl
    obtain ⟨oL, es, ep, hL, hLd⟩ := Ns.obj hn
    rw [ho] at hL; cases hL; rw [hd] at hLd; cases hLd
  have b' : BS X s₁ F₁ k' F' { s' with heap := h' } := b.but (tk := s'.toks) hsb.extBut hC0 hCF hCt
  obtain ⟨o, ho, hoc, n, hd⟩ := hl
  have b'' := b'.freeze (a := D) (o := o) (hsb.extBut D o hDC ho) hD0 hDF hDt
  refine qq _ _ _ (b₁.trans b'') ?_
  simp only [VR]
  exact ⟨D, vs.toList, rfl, ⟨o, FMap.put_self, hoc, n, by simpa using hd⟩, hvs.mono (FMap.put_ext hDF)⟩

/-- a name gets a comprehension's list (the list is stored before the comprehension's frame goes) -/
theorem ex_assign_comp {x : Str} {px apos : Pos} {elt : PySem.Expr} {g : Comprehension} {gs : List Comprehension} {scope : Scope} {pos : Pos} {cl : List (Str × Addr)} {p : PV} {items rs : List PV} (h : EvE X env A vm gl k g.iter p k₁)
    (T : ∀ C, TurnIs (.ListComp elt (g :: gs) scope pos) elt (g :: gs) (compEnvC scope cl C env)) (hga : ∀ c ∈ g :: gs, c.is_async = 0) (hclos : closureFor scope env = pure cl)
    (hok : scopeOk scope = true) (hcl : SubC env.cells cl) (hcap : Cap vm env scope.names cl vmc) (hi : IterOf X A p items)
    (hc : ∀ C, CompEx X (compEnvC scope cl C env) A elt (g :: gs) items vmc k₁ rs k') (hsz : rs.length ≤ sizeLine)
    (ha : Asg X env A true gl (.Name x px) (.list rs) vm vm')
    (hsw : swapsWith (.ListComp elt (g :: gs) scope pos) (some (.Name x px)) apos.line env = pure true)
    (hs : ∀ x, foldedSetIterable g.iter env x = pure x := by intro _; rfl) :
    Ex X env A vm gl k (exec (.Assign [.Name x px] (.ListComp elt (g :: gs) scope pos) apos) env) (.next vm' gl k') := by
  intro s₀ F₀ s Fz Q E f qq
  obtain ⟨hkind, hnames⟩ := scopeOk_spec hok
  obtain ⟨gt, gi, gf, ga⟩ := g
  obtain rfl : ga = 0 := hga _ List.mem_cons_self
  rw [exec_Assign_Name_used _ _ _ _ hsw]
  refine wpAny_bind (wpAny_standAt (wpAny_bind ?_))
  show wpAny _ A (do let _ ← comprehension (.ListComp elt (⟨gt, gi, gf, 0⟩ :: gs) scope pos) scope env _ (newList []) false (eval gi env) (some (assign (.Name x px) env))) _ _ s
  refine wpAny_bind (wpAny_mono (wpAny_comprehension_free (use := some (assign (.Name x px) env)) (Q := fun _ s' => Q .next s') (E := E) rfl hs hclos hkind hnames ?_) (fun _ s' hq => wpAny_pure (wpAny_pure hq)) fun _ _ e => e)
  refine @h _ _ _ _ _ f _ E fun v s₁ F₁ b₁ r₁ => ?_
  have f₁ := f.step b₁
  refine comp_block T hga hok hcl hcap hi hc hsz f₁ r₁ E (fun acc C => compPost X.M A E (some (assign (.Name x px) env)) (fun _ s' => Q .next s') acc C) fun D C s' F' vs b hn hC0 hCF hCt hl hvs hD0 hDF hDt => ?_
  obtain ⟨mC, hn⟩ := hn
  obtain ⟨o, ho, hoc, n, hd⟩ := hl
  have b'' := b.freeze (a := D) (o := o) ho hD0 hDF hDt
  have f' := f₁.step b''
  have hvD : VR X.t (FMap.put F' D o) (.list rs) (.ref D) := by
    simp only [VR]
    exact ⟨D, vs.toList, rfl, ⟨o, FMap.put_self, hoc, n, by simpa using hd⟩, hvs.mono (FMap.put_ext hDF)⟩
  obtain ⟨oC, esC, epC, hoC, hdC⟩ := Ns.obj hn
  have hCD : C ≠ D := fun e => by subst e; rw [ho] at hoC; cases hoC; rw [hd] at hdC; cases hdC
  obtain ⟨m₁, cm₁, r₁'⟩ := f₁.fr
  have hCL : C ≠ env.locals := fun e => by
    obtain ⟨oL, es, ep, hL, hLd⟩ := Ns.obj r₁'.ns
    rw [← e, hC0] at hL; cases hL
  have hCc : ∀ n c, env.cells.lookup n = some c → C ≠ c := fun n c hc e => by
    subst e
    obtain ⟨oc, h1, _⟩ := r₁'.cell n _ hc
    rw [hC0] at h1; cases h1
  refine @ha _ _ _ _ _ _ _ _ f' hvD fun s₂ f₂ ax => ?_
  refine ⟨mC, ?_, fun h' hsb => ?_⟩
  · obtain ⟨o', es', ep', q1, q2, q3⟩ := hn
    exact ⟨o', es', ep', ax.kp C o' hCL hCc q1, q2, q3⟩
  · -- the comprehension's own names go: the frame f₂ stands
    have hCF2 : (FMap.put F' D o) C = none := by unfold FMap.put; rw [if_neg hCD]; exact hCF
    have hs0C : s₀.heap.get? C = none := by
      cases e : s₀.heap.get? C with
      | none => rfl
      | some o => have := f₁.bs.keep C o hCt e; rw [hC0] at this; cases this
    obtain ⟨m₂, cm₂, r₂⟩ := f₂.fr
    have f₃ : FS X s₀ F₀ env vm' gl true k' (FMap.put F' D o) { s₂ with heap := h' } := by
      refine ⟨f₂.bs.but (tk := s₂.toks) hsb.extBut hs0C hCF2 hCt, m₂, cm₂, r₂.kind, r₂.glob, r₂.bui, r₂.ns.sameBut hsb (Ne.symm hCL), r₂.Lnew, r₂.FL, r₂.Lt, fun n c e => (r₂.cell n c e).sameBut hsb fun z => hCc n c e z.symm, r₂.cF, r₂.cnew, r₂.apart, r₂.vars, fun y l e => ?_⟩
      obtain ⟨a, us, q1, q2, q3, q4⟩ := r₂.grow y l e
      obtain ⟨oa, p1⟩ := q3
      refine ⟨a, us, q1, q2, ⟨oa, hsb.extBut a _ (fun z => ?_) p1⟩, q4⟩
      subst z
      have := ax.kp a oC hCL hCc hoC
      unfold IsL at p1
      rw [p1] at this; cases this; cases hdC
    refine qq _ _ _ ⟨rfl, f₃⟩ ?_
    have xs₂ := XS.trans b₁.xs (XS.trans b''.xs ax.xs)
    have hsC : s.heap.get? C = none := by
      cases e : s.heap.get? C with
      | none => rfl
      | some o => have := b₁.keep C o hCt e; rw [hC0] at this; cases this
    refine ⟨xs₂.ext, fun b o q1 q2 q3 q4 e => hsb.extBut b o (fun z => ?_) (xs₂.kx b o q1 q2 q3 q4 e), xs₂.new, fun a oa e => ?_⟩
    · subst z; rw [hsC] at e; cases e
    · obtain ⟨o', e'⟩ := xs₂.live a oa e
      exact ⟨o', hsb.extBut a o' (fun z => by subst z; rw [hsC] at e; cases e) e'⟩
end

/-- a call of one value, around A -/
noncomputable def CSpec (X : Cx) (A : Around) (f : Value) (args : List PV) (k : TS) (r : PV) (k' : TS) : Prop :=
  ∀ (s : Shared) (Fz : FMap) (vs : List Value), Base X k Fz s.heap → VRs X.t Fz args vs → At X A s Fz (call f vs) k' fun F v => VR X.t F r v
theorem FSpec.c {X : Cx} {n : Nat} {A : Around} {f args k r k'} (h : FSpec X n f args k r k') (R : Room A n) : CSpec X A f args k r k' := fun s Fz vs b hv Q E q => h A R s Fz vs Q E b hv fun v s' F' bs hr => q v s' F' bs hr

inductive AEv (X : Cx) (env : Env) (A : Around) (vm : List (Str × PV)) (gl : Option (Str × List PV)) : TS → List PySem.Expr → List PV → TS → Prop
  | nil {k : TS} : AEv X env A vm gl k [] [] k
  | cons {k k₁ k₂ : TS} {e : PySem.Expr} {es : List PySem.Expr} {p : PV} {ps : List PV} : EvE X env A vm gl k e p k₁ → starEach (e :: es) env = (false, eval e env) :: starEach es env → AEv X env A vm gl k₁ es ps k₂ → AEv X env A vm gl k (e :: es) (p :: ps) k₂

section
variable {X : Cx} {env : Env} {A : Around} {vm vm' : List (Str × PV)} {gl : Option (Str × List PV)} {k k₁ k₂ k₃ k' : TS} {s₀ s s' : Shared} {F₀ Fz Fz' : FMap} {own : Bool}
theorem AEv.run {pos : Pos} {es : List PySem.Expr} {ps : List PV} (h : AEv X env A vm gl k es ps k') : ((backTo pos (starEach es env)).any (·.1) = false ∧ (backTo pos (starEach es env)).length = ps.length) ∧ ∀ own s₀ F₀ s Fz, FS X s₀ F₀ env vm gl own k Fz s →
    At X A s Fz (spliced (backTo pos (starEach es env))) k' fun F vs => VRs X.t F ps vs := by
  induction h with
  | nil => exact ⟨⟨rfl, rfl⟩, fun own s₀ F₀ s Fz f Q E q => spliced_nil (q [] s Fz (BS.refl f.bs.ok) (by simp only [VRs]))⟩
  | cons he hs _ ih =>
    rw [hs]
    refine ⟨⟨ih.1.1, congrArg (· + 1) ih.1.2⟩, fun own s₀ F₀ s Fz f Q E q => ?_⟩
    refine spliced_cons (@he _ _ _ _ _ f _ E fun v s₁ F₁ b₁ r₁ => ih.2 _ _ _ _ _ (f.step b₁) _ E fun vs s₂ F₂ b₂ r₂ => ?_)
    exact q _ s₂ F₂ (b₁.trans b₂) (.cons (r₁.mono b₂.ext) r₂)
theorem evalArgs_any {f : Value} {args : List (Bool × Sem Value)} {Q : Args → Shared → Prop} {E : Value → Shared → Prop} (hp : args.any (·.1) = false)
    (h : wpAny X.M A (spliced args) (fun vs s' => Q ⟨vs, []⟩ s') E s) : wpAny X.M A (evalArgs f true args []) Q E s := by
  match args, hp with
  | [], _ =>
    unfold evalArgs
    show wpAny X.M A (spliced [] >>= _) Q E s
    refine wpAny_bind (wpAny_mono h (fun vs s' h' => ?_) fun _ _ x => x)
    refine wpAny_holding ?_
    exact wpAny_bind (wpAny_pure (wpAny_bind (wpAny_pure (wpAny_pure h'))))
  | (b, x) :: rest, hp =>
    have : b = false := by
      cases b with
      | false => rfl
      | true => simp at hp
    subst this
    exact evalArgs_plain h
theorem callWith_val {pos : Pos} {v : Value} {first : List Value} {args : List (Bool × Sem Value)} {Q : Value → Shared → Prop} {E : Value → Shared → Prop} (hv : ∀ a, v ≠ .ref a) (hplain : args.any (·.1) = false)
    (h : wpAny X.M A (evalArgs v true args []) (fun a s₁ => wpAny X.M A (call v (first ++ a.pos) a.kw) Q E s₁) E s) :
    wpAny X.M A (callWith pos v first args []) Q E s := by
  unfold callWith
  refine wpAny_bind (wpAny_holding (wpAny_mono h (fun a s₁ h₁ => wpAny_bind (wpAny_standAt ?_)) fun _ _ x => x))
  simp only [hplain, List.any_nil, Bool.or_false]
  have hk : keeperOf v = pure .machine := by
    unfold keeperOf
    cases v <;> first | rfl | exact absurd rfl (hv _)
  rw [hk]
  refine wpAny_bind (wpAny_pure ?_)
  exact wpAny_bind (wpAny_mono h₁ (fun r s₂ hr => wpAny_bind (wpAny_holding (wpAny_point (wpAny_pure hr)))) fun _ _ x => x)

/-- what may stand ahead of a call's brackets: a value that is no reference, or a def -/
noncomputable def Callee (X : Cx) (v : Value) : Prop := (∀ a, v ≠ .ref a) ∨ (∃ a o fd, v = .ref a ∧ X.H.get? a = some o ∧ o.data = .func fd) ∨ keepIn (KK X.w) v = true
theorem callee_val {X : Cx} {v : Value} (h : ∀ a, v ≠ .ref a := by intro a h; cases h) : Callee X v := .inl h
theorem callee_fn {X : Cx} {a : Addr} {o : Obj} {fd : FuncData} (h : (KK X.w).lookup a = some o) (hd : o.data = .func fd) : Callee X (.ref a) := .inr (.inl ⟨a, o, fd, rfl, X.inK _ _ h, hd⟩)
theorem callee_k {X : Cx} {v : Value} (h : keepIn (KK X.w) v = true) : Callee X v := .inr (.inr h)
theorem wp_callWith {pos : Pos} {v : Value} {first : List Value} {fps : List PV} {es : List PySem.Expr} {ps : List PV} {r : PV} (hc : Callee X v) (h : AEv X env A vm gl k es ps k₁) (hs : CSpec X A v (fps ++ ps) k₁ r k₂) (f : FS X s₀ F₀ env vm gl own k Fz s)
    (hf : VRs X.t Fz fps first) : At X A s Fz (callWith pos v first (backTo pos (starEach es env)) []) k₂ fun F u => VR X.t F r u := by
  intro Q E q
  obtain ⟨⟨h1, h2⟩, h3⟩ := h.run (pos := pos)
  rcases hc with hc | ⟨a, o, fd, rfl, ho, hd⟩ | hc
  · refine callWith_val hc h1 (evalArgs_any h1 (@h3 _ _ _ _ _ f _ E fun vs s₁ F₁ b₁ r₁ => ?_))
    exact hs s₁ F₁ _ b₁.ok ((hf.mono b₁.ext).append r₁) Q E fun u s₂ F₂ b₂ r₂ => q u s₂ F₂ (b₁.trans b₂) r₂
  · refine callWith_function (evalArgs_any h1 (@h3 _ _ _ _ _ f _ E fun vs s₁ F₁ b₁ r₁ => ⟨⟨b₁.ok.old _ _ ho, hd⟩, ?_⟩))
    exact hs s₁ F₁ _ b₁.ok ((hf.mono b₁.ext).append r₁) Q E fun u s₂ F₂ b₂ r₂ => q u s₂ F₂ (b₁.trans b₂) r₂
  · refine callWith_of (by rw [h1]; rfl) (keeps_K hc) (evalArgs_any h1 (@h3 _ _ _ _ _ f _ E fun vs s₁ F₁ b₁ r₁ => ⟨b₁.ok.K, ?_⟩))
    exact hs s₁ F₁ _ b₁.ok ((hf.mono b₁.ext).append r₁) Q E fun u s₂ F₂ b₂ r₂ => q u s₂ F₂ (b₁.trans b₂) r₂
theorem ev_call {fn : PySem.Expr} {es : List PySem.Expr} {pos : Pos} {v : Value} {ps : List PV} {r : PV} (hf : EvE X env A vm gl k fn (.glob v) k₁) (hc : Callee X v) (ha : AEv X env A vm gl k₁ es ps k₂) (hs : CSpec X A v ps k₂ r k₃)
    (hsh : eval (.Call fn es [] pos) env = (eval fn env >>= fun u => callWith pos u [] (backTo pos (starEach es env)) []) := by rfl) : EvE X env A vm gl k (.Call fn es [] pos) r k₃ := by
  intro own s₀ F₀ s Fz f Q E q
  rw [hsh]
  refine wpAny_bind (@hf _ _ _ _ _ f _ E fun u s₁ F₁ b₁ r₁ => ?_)
  simp only [VR] at r₁
  subst r₁
  exact wp_callWith (fps := []) hc ha hs (f.step b₁) (by simp only [VRs]) Q E fun u s₂ F₂ b₂ r₂ => q u s₂ F₂ (b₁.trans b₂) r₂
end

/- a def's entry -/
noncomputable def BVR (t : Addr) (F : FMap) : List (Str × PV) → List (Str × Value) → Prop
  | [], bs => bs = []
  | (n, p) :: r, bs => ∃ v bs', bs = (n, v) :: bs' ∧ VR t F p v ∧ BVR t F r bs'
noncomputable def Kinds (env : Env) : List (Str × PV) → Prop
  | [] => True
  | (n, _) :: r => (env.kindOf n = some .local ∨ (env.kindOf n = some .cell ∧ (env.cells.lookup n).isSome = true)) ∧ r.lookup n = none ∧ Kinds env r

theorem BVR.lookup_none {t : Addr} {F : FMap} : ∀ {vm : List (Str × PV)} {bs : List (Str × Value)}, BVR t F vm bs → ∀ {n : Str}, vm.lookup n = none → ∀ x ∈ bs, x.1 ≠ n
  | [], bs, h, n, _, x, hx => by cases (show bs = [] from h); cases hx
  | (k, p) :: r, bs, ⟨v, bs', hb, _, hr⟩, n, hn, x, hx => by
    subst hb
    rw [List.lookup_cons] at hn
    cases hk : n == k with
    | true => rw [hk] at hn; cases hn
    | false =>
      rw [hk] at hn
      rcases List.mem_cons.mp hx with rfl | hx
      · exact fun e => (beq_eq_false_iff_ne.mp hk) e.symm
      · exact hr.lookup_none hn x hx
theorem bindL_other {kindOf : Str → Option NameKind} {n : Str} : ∀ {bs : List (Str × Value)} {m : Str → Option Value}, (∀ x ∈ bs, x.1 ≠ n) → bindL kindOf bs m n = m n
  | [], _, _ => rfl
  | (k, v) :: r, m, h => by
    unfold bindL
    rw [bindL_other fun x hx => h x (List.mem_cons_of_mem _ hx)]
    split
    · exact if_neg (fun e => h (k, v) List.mem_cons_self e.symm)
    · rfl
theorem bindC_other {kindOf : Str → Option NameKind} {n : Str} : ∀ {bs : List (Str × Value)} {m : Str → Option Value}, (∀ x ∈ bs, x.1 ≠ n) → bindC kindOf bs m n = m n
  | [], _, _ => rfl
  | (k, v) :: r, m, h => by
    unfold bindC
    rw [bindC_other fun x hx => h x (List.mem_cons_of_mem _ hx)]
    split
    · rfl
    · exact if_neg (fun e => h (k, v) List.mem_cons_self e.symm)
theorem bind_vars {t : Addr} {F : FMap} {env : Env} : ∀ {vm : List (Str × PV)} {bs : List (Str × Value)}, BVR t F vm bs → Kinds env vm → ∀ (m cm : Str → Option Value) {n : Str} {p : PV}, vm.lookup n = some p →
    ∃ v, VR t F p v ∧ ((env.kindOf n = some .local ∧ bindL env.kindOf bs m n = some v) ∨ ((env.kindOf n = some .cell ∨ env.kindOf n = some .free) ∧ ∃ c, env.cells.lookup n = some c ∧ bindC env.kindOf bs cm n = some v))
  | (k, q) :: r, bs, ⟨v, bs', hb, hv, hr⟩, ⟨h1, h2, h3⟩, m, cm, n, p, e => by
    subst hb
    rw [List.lookup_cons] at e
    cases hk : n == k with
    | true =>
      rw [hk] at e; cases e
      have : n = k := beq_iff_eq.mp hk
      subst this
      refine ⟨v, hv, ?_⟩
      rcases h1 with h1 | ⟨h1, hc⟩
      · left; refine ⟨h1, ?_⟩
        unfold bindL; rw [bindL_other (hr.lookup_none h2), if_pos h1]; exact if_pos rfl
      · right
        obtain ⟨c, hc⟩ := Option.isSome_iff_exists.mp hc
        refine ⟨.inl h1, c, hc, ?_⟩
        unfold bindC; rw [bindC_other (hr.lookup_none h2), if_neg (by rw [h1]; decide)]; exact if_pos rfl
    | false =>
      rw [hk] at e
      unfold bindL bindC
      exact bind_vars hr h3 _ _ e
theorem Kinds.binds {t : Addr} {F : FMap} {env : Env} : ∀ {vm : List (Str × PV)} {bs : List (Str × Value)}, BVR t F vm bs → Kinds env vm → ∀ x ∈ bs, env.kindOf x.1 = some .local ∨ (env.kindOf x.1 = some .cell ∧ (env.cells.lookup x.1).isSome = true)
  | [], bs, h, _, x, hx => by cases (show bs = [] from h); cases hx
  | (k, q) :: r, bs, ⟨v, bs', hb, _, hr⟩, ⟨h1, _, h3⟩, x, hx => by
    subst hb
    rcases List.mem_cons.mp hx with rfl | hx
    · exact h1
    · exact Kinds.binds hr h3 x hx

noncomputable def OutR (o : Out) (r : PV) (k' : TS) : Prop := match o with
  | .ret p k => p = r ∧ k = k'
  | .next _ _ k => r = .none ∧ k = k'

theorem fspec_def {X : Cx} {n : Nat} {a : Addr} {ob : Obj} {fd : FuncData} {body : List Stmt} {args : List PV} {k : TS} {r : PV} {k' : TS} (vm : List (Str × PV)) (o : Out)
    (hk : (KK X.w).lookup a = some ob) (hd : ob.data = .func fd) (hbody : fd.body = .stmts body) (hcd : codeIn (KK X.w) fd.code fd.qualname = true)
    (hclo : fd.closure = []) (hgl : fd.globals = mainGlobals) (hbu : fd.builtins = builtinsNs)
    (hkinds : ∀ L, Kinds (callEnvC fd L a) vm)
    (hbind : ∀ F vs, VRs X.t F args vs → ∃ bs, peek (KK X.w) ⟨X.p, X.w.params⟩ (bindArgs fd ⟨vs, []⟩) = some bs ∧ BVR X.t F vm bs)
    (hb : ∀ L A, Room A n → Ex X (callEnvC fd L a) A vm none k (execs body (callEnvC fd L a)) o) (hr : OutR o r k')
    (hco : fd.scope.isCoroutine = false := by rfl) (hgen : fd.scope.isGenerator = false := by rfl) (hkd : fd.scope.kind = .function := by rfl) : FSpec X (n + 1) (.ref a) args k r k' := by
  intro A R s Fz vs Q E b hv q
  obtain ⟨bs, hpk, hbs⟩ := hbind Fz vs hv
  have ho : s.heap.get? a = some ob := b.old _ _ (X.inK _ _ hk)
  refine wpAny_call (codeAny_call_function R.depth ho hd hco hgen hbody (codeRec_of b.K hcd) ?_)
  refine Looks.of_peek (M := X.M) (h := s.heap) b.K hpk _ _ _ _ (fun _ _ e => e) ?_
  rw [hclo]
  refine wpAny_newFunctionEnv_cells hkd (fun x hx => Kinds.binds hbs (hkinds s.heap.objs.size) x hx) fun env he s' x => ?_
  subst he
  refine ⟨(X.nolimit.keeps b.old).keeps x.toInCall.keep, codeAny_func ?_⟩
  have fresh : ∀ c, s.heap.objs.size ≤ c → s.heap.get? c = none := fun c hc => by
    cases e : s.heap.get? c with
    | none => rfl
    | some o' => exact absurd (Heap.lt_size e) (Nat.not_lt.mpr hc)
  have freshF : ∀ c, s.heap.objs.size ≤ c → Fz c = none := fun c hc => by
    cases e : Fz c with
    | none => rfl
    | some o' => exact absurd (b.lt e) (Nat.not_lt.mpr hc)
  have freshT : ∀ c, s.heap.objs.size ≤ c → c ≠ X.t := fun c hc e => by
    obtain ⟨o, ho⟩ := b.tis
    exact absurd (Heap.lt_size ho) (Nat.not_lt.mpr (e ▸ hc))
  have up : ∀ n c, (callEnvC fd s.heap.objs.size a).cells.lookup n = some c → s.heap.objs.size < c := fun n c hc => x.above n c (mem_of_lookup hc)
  have f : FS X s Fz (callEnvC fd s.heap.objs.size a) vm none true k Fz s' := by
    obtain ⟨h', tk, rfl, hk'⟩ := x.done
    refine ⟨PS.bs ⟨⟨_, _, rfl⟩, hk'⟩ b, _, _, hkd, hgl, hbu, x.toInCall.ns, fresh _ (Nat.le_refl _), freshF _ (Nat.le_refl _), freshT _ (Nat.le_refl _), x.cell, fun n c hc => ?_, fun _ n c hc => fresh c (Nat.le_of_lt (up n c hc)), x.apart, fun m p e => ?_, fun _ _ e => nomatch e⟩
    · have hu := up n c hc
      exact ⟨freshF c (Nat.le_of_lt hu), freshT c (Nat.le_of_lt hu), Nat.ne_of_gt hu⟩
    · exact bind_vars hbs (hkinds s.heap.objs.size) _ _ e
  refine hb s.heap.objs.size (A.deeper (callEnvC fd s.heap.objs.size a)) (R.deeper (Nat.lt_succ_self n)) Fz s' Fz _ _ f fun fl s'' F'' ok _ => ?_
  cases o with
  | ret p k₂ =>
    obtain ⟨v, rfl, hvr, hbs'⟩ := ok
    obtain ⟨rfl, rfl⟩ := hr
    exact q v s'' F'' hbs' hvr
  | next vm' gl' k₂ =>
    obtain ⟨rfl, f'⟩ := ok
    obtain ⟨rfl, rfl⟩ := hr
    exact q .none s'' F'' f'.bs (by simp only [VR])
section
variable {t : Addr} {F : FMap}
theorem vr_int {i : Int} {tk : Tok} : VR t F (.int i) (.int i tk) := by simp only [VR]; exact ⟨tk, rfl⟩
theorem vr_str {x : Str} {tk : Tok} : VR t F (.str x) (.str x tk) := by simp only [VR]; exact ⟨tk, rfl⟩
theorem vr_bytes {x : List UInt8} {tk : Tok} : VR t F (.bytes x) (.bytes x.toArray tk) := by simp only [VR]; exact ⟨tk, rfl⟩
theorem vr_bytes' {x : Array UInt8} {tk : Tok} : VR t F (.bytes x.toList) (.bytes x tk) := by simp only [VR]; exact ⟨tk, by simp⟩
theorem vr_bool {b : Bool} : VR t F (.bool b) (.bool b) := by simp only [VR]
theorem vr_none : VR t F .none .none := by simp only [VR]
theorem vr_glob {v : Value} : VR t F (.glob v) v := by simp only [VR]
end
section
variable {X : Cx} {A : Around} {f : Value → Value → Sem Value} {r : PV}
theorem bin_ii {a b : Int} (h : ∀ s Fz k t t', Base X k Fz s.heap → At X A s Fz (f (.int a t) (.int b t')) k fun F x => VR X.t F r x) : Bin X A f (.int a) (.int b) r := by
  intro s Fz k v u b hv hu; simp only [VR] at hv hu; obtain ⟨t, rfl⟩ := hv; obtain ⟨t', rfl⟩ := hu; exact h s Fz k t t' b
theorem bin_ss {a b : Str} (h : ∀ s Fz k t t', Base X k Fz s.heap → At X A s Fz (f (.str a t) (.str b t')) k fun F x => VR X.t F r x) : Bin X A f (.str a) (.str b) r := by
  intro s Fz k v u b hv hu; simp only [VR] at hv hu; obtain ⟨t, rfl⟩ := hv; obtain ⟨t', rfl⟩ := hu; exact h s Fz k t t' b
theorem bin_bb {a b : List UInt8} (h : ∀ s Fz k t t', Base X k Fz s.heap → At X A s Fz (f (.bytes a.toArray t) (.bytes b.toArray t')) k fun F x => VR X.t F r x) : Bin X A f (.bytes a) (.bytes b) r := by
  intro s Fz k v u b hv hu; simp only [VR] at hv hu; obtain ⟨t, rfl⟩ := hv; obtain ⟨t', rfl⟩ := hu; exact h s Fz k t t' b
theorem bin_bi {a : List UInt8} {b : Int} (h : ∀ s Fz k t t', Base X k Fz s.heap → At X A s Fz (f (.bytes a.toArray t) (.int b t')) k fun F x => VR X.t F r x) : Bin X A f (.bytes a) (.int b) r := by
  intro s Fz k v u b hv hu; simp only [VR] at hv hu; obtain ⟨t, rfl⟩ := hv; obtain ⟨t', rfl⟩ := hu; exact h s Fz k t t' b
end
section
variable {X : Cx} {A : Around}
theorem bin_addi {a b : Int} : Bin X A (binaryOp .Add) (.int a) (.int b) (.int (a + b)) := bin_ii fun s Fz k t t' b Q E q => P.add_int (q _ _ Fz (BS.toks b _) vr_int)
theorem bin_subi {a b : Int} : Bin X A (binaryOp .Sub) (.int a) (.int b) (.int (a - b)) := bin_ii fun s Fz k t t' b Q E q => P.sub_int (q _ _ Fz (BS.toks b _) vr_int)
theorem bin_muli {a b : Int} (h : IntMulOk a b) : Bin X A (binaryOp .Mult) (.int a) (.int b) (.int (a * b)) := bin_ii fun s Fz k t t' b Q E q => P.mul_int (q _ _ Fz (BS.toks b _) vr_int) h
theorem bin_modi {a b : Int} (h : b ≠ 0) : Bin X A (binaryOp .Mod) (.int a) (.int b) (.int (a.fmod b)) := bin_ii fun s Fz k t t' b Q E q => mod_int h (q _ _ Fz (BS.toks b _) vr_int)
theorem bin_divi {a b : Int} (h : b ≠ 0) (hp : Builtin.divisionGoesByPylong a b = false) : Bin X A (binaryOp .FloorDiv) (.int a) (.int b) (.int (a.fdiv b)) := bin_ii fun s Fz k t t' bb Q E q =>
  PySem.AutoIntOps.floordiv_1 (by simpa using h) (by rw [hp]; decide) (q _ _ Fz (BS.toks bb _) vr_int)
theorem cmp_eqi {a b : Int} : Bin X A (compareOp .Eq) (.int a) (.int b) (.bool (a == b)) := bin_ii fun s Fz k t t' b Q E q => P.eq_int (q _ _ Fz (BS.refl b) vr_bool)
theorem cmp_nei {a b : Int} : Bin X A (compareOp .NotEq) (.int a) (.int b) (.bool (a != b)) := bin_ii fun s Fz k t t' b Q E q => P.ne_int (q _ _ Fz (BS.refl b) vr_bool)
theorem cmp_lti {a b : Int} : Bin X A (compareOp .Lt) (.int a) (.int b) (.bool (decide (a < b))) := bin_ii fun s Fz k t t' b Q E q => P.lt_int (q _ _ Fz (BS.refl b) vr_bool)
theorem cmp_lei {a b : Int} : Bin X A (compareOp .LtE) (.int a) (.int b) (.bool (decide (a ≤ b))) := bin_ii fun s Fz k t t' b Q E q => P.le_int (q _ _ Fz (BS.refl b) vr_bool)
theorem cmp_gti {a b : Int} : Bin X A (compareOp .Gt) (.int a) (.int b) (.bool (decide (a > b))) := bin_ii fun s Fz k t t' b Q E q => P.gt_int (q _ _ Fz (BS.refl b) vr_bool)
theorem cmp_gei {a b : Int} : Bin X A (compareOp .GtE) (.int a) (.int b) (.bool (decide (a ≥ b))) := bin_ii fun s Fz k t t' b Q E q => P.ge_int (q _ _ Fz (BS.refl b) vr_bool)
theorem cmp_eqs {a b : Str} : Bin X A (compareOp .Eq) (.str a) (.str b) (.bool (a.cps.toList == b.cps.toList)) := bin_ss fun s Fz k t t' b Q E q => P.eq_str (q _ _ Fz (BS.refl b) vr_bool)
theorem cmp_nes {a b : Str} : Bin X A (compareOp .NotEq) (.str a) (.str b) (.bool (a.cps.toList != b.cps.toList)) := bin_ss fun s Fz k t t' b Q E q => P.ne_str (q _ _ Fz (BS.refl b) vr_bool)
theorem bin_adds {a b : Str} (h : a.length + b.length ≤ sizeLine) : Bin X A (binaryOp .Add) (.str a) (.str b) (.str (a ++ b)) := bin_ss fun s Fz k t t' bb Q E q => SB.add (fun t' n => q _ _ Fz (BS.toks bb _) vr_str) h
theorem bin_addb {a b : List UInt8} (h : a.length + b.length ≤ 16777216) : Bin X A (binaryOp .Add) (.bytes a) (.bytes b) (.bytes (a ++ b)) := bin_bb fun s Fz k t t' bb Q E q =>
  KBy.add_bytes (by simp only [List.size_toArray]; exact h) fun t' n => q _ _ Fz (BS.toks bb _) (by simpa using vr_bytes' (x := a.toArray ++ b.toArray))
theorem cmp_eqb {a b : List UInt8} : Bin X A (compareOp .Eq) (.bytes a) (.bytes b) (.bool (a == b)) := bin_bb fun s Fz k t t' b Q E q => eq_bytes (q _ _ Fz (BS.refl b) vr_bool)
theorem cmp_neb {a b : List UInt8} : Bin X A (compareOp .NotEq) (.bytes a) (.bytes b) (.bool (a != b)) := bin_bb fun s Fz k t t' b Q E q => ne_bytes (q _ _ Fz (BS.refl b) vr_bool)

/- items -/
theorem item_list {l : List PV} {i : Nat} {p : PV} (h : l[i]? = some p) (hi : i < 2 ^ 62) : Bin X A getItem (.list l) (.int i) p := by
  intro s Fz k v u b hv hu Q E q
  simp only [VR] at hv hu
  obtain ⟨a, vs, rfl, ⟨o, ho, hc, n, hd⟩, hvs⟩ := hv
  obtain ⟨t, rfl⟩ := hu
  obtain ⟨x, hx, hp⟩ := hvs.get h
  exact wpAny_getItem_list ⟨o, b.now _ _ ho, hc, n, hd⟩ (by omega) (by omega) (by simpa using hx) (q x s Fz (BS.refl b) hp)
theorem item_tup {l : List PV} {i : Nat} {p : PV} (h : l[i]? = some p) (hi : i < 2 ^ 62) : Bin X A getItem (.tup l) (.int i) p := by
  intro s Fz k v u b hv hu Q E q
  simp only [VR] at hv hu
  obtain ⟨a, vs, rfl, ⟨o, ho, hc, n, hd⟩, hvs⟩ := hv
  obtain ⟨t, rfl⟩ := hu
  obtain ⟨x, hx, hp⟩ := hvs.get h
  have hlt : i < vs.length := (List.getElem?_eq_some_iff.mp hx).1
  refine PyProof.Rows.getItem_tuple (j := i) ⟨o, b.now _ _ ho, hc, n, hd⟩ (by omega) (by omega) ?_ (by simpa using hx) (q x s Fz (BS.refl b) hp)
  simp [seqIndex?]; omega
theorem item_bytes {l : List UInt8} {i : Int} (h0 : 0 ≤ i) (h1 : i < l.length) (hf : l.length ≤ 16777216) : Bin X A getItem (.bytes l) (.int i) (.int (l.getD i.toNat 0).toNat) :=
  bin_bi fun s Fz k t t' b Q E q => getItem_bytes (by omega) h0 h1 (q _ _ Fz (BS.toks b _) vr_int)
end
section
variable {X : Cx} {env : Env} {A : Around} {vm vm' : List (Str × PV)} {gl : Option (Str × List PV)} {k k₁ k₂ k₃ k' : TS} {s₀ s s' : Shared} {F₀ Fz Fz' : FMap} {own : Bool}

/- displays -/
theorem ev_tuple {es : List PySem.Expr} {n : Nat} {pos : Pos} {ps : List PV} (h : AEv X env A vm gl k es ps k') (hl : ps.length ≤ sizeLine := by (first | decide | simp [sizeLine])) : EvE X env A vm gl k (.Tuple es n pos) (.tup ps) k' := by
  intro own s₀ F₀ s Fz f Q E q
  refine wpAny_Tuple (h.run.2 _ _ _ _ _ f _ E fun vs s₁ F₁ b₁ r₁ => ⟨by rw [r₁.length]; exact hl, ?_⟩)
  have b₂ := BS.push (tk := s₁.toks) b₁.ok (o := { cls := .type "tuple", data := .seq vs.toArray }) rfl
  refine q _ _ _ (b₁.trans b₂) ?_
  simp only [VR]
  exact ⟨_, vs, rfl, ⟨_, FMap.put_self, rfl, _, rfl⟩, r₁.mono b₂.ext⟩
theorem ev_list {es : List PySem.Expr} {pos : Pos} {ps : List PV} (h : AEv X env A vm gl k es ps k') (hl : ps.length ≤ sizeLine := by (first | decide | simp [sizeLine])) : EvE X env A vm gl k (.List es pos) (.list ps) k' := by
  intro own s₀ F₀ s Fz f Q E q
  refine wpAny_List (h.run.2 _ _ _ _ _ f _ E fun vs s₁ F₁ b₁ r₁ => ⟨by rw [r₁.length]; exact hl, ?_⟩)
  have b₂ := BS.push (tk := s₁.toks) b₁.ok (o := { cls := .type "list", data := .seq vs.toArray }) rfl
  refine q _ _ _ (b₁.trans b₂) ?_
  simp only [VR]
  exact ⟨_, vs, rfl, ⟨_, FMap.put_self, rfl, _, rfl⟩, r₁.mono b₂.ext⟩

/- boolean operators in a test -/
noncomputable abbrev EvT (X : Cx) (env : Env) (A : Around) (vm : List (Str × PV)) (gl : Option (Str × List PV)) (k : TS) (op : BoolOp) (es : List PySem.Expr) (c : Bool) : Prop := Ev X env A vm gl k (allTrue op es env) k fun _ d => d = c
theorem evt_and_nil : EvT X env A vm gl k .And [] true := fun own s₀ F₀ s Fz f Q E q => wpAny_allTrue_And_nil (q _ _ Fz (BS.refl f.bs.ok) rfl)
theorem evt_or_nil : EvT X env A vm gl k .Or [] false := fun own s₀ F₀ s Fz f Q E q => wpAny_allTrue_Or_nil (q _ _ Fz (BS.refl f.bs.ok) rfl)
theorem evt_and {e : PySem.Expr} {es : List PySem.Expr} {c d : Bool} (h : EvB X env A vm gl k e c k) (h' : c = true → EvT X env A vm gl k .And es d) : EvT X env A vm gl k .And (e :: es) (c && d) := by
  intro own s₀ F₀ s Fz f Q E q
  refine wpAny_allTrue_And_cons (@h _ _ _ _ _ f _ E fun b s₁ F₁ b₁ r₁ => ?_)
  subst r₁
  cases b with
  | true => exact @h' rfl _ _ _ _ _ (f.step b₁) Q E fun x s₂ F₂ b₂ r₂ => q x s₂ F₂ (b₁.trans b₂) (by simpa using r₂)
  | false => exact q _ s₁ F₁ b₁ rfl
theorem evt_or {e : PySem.Expr} {es : List PySem.Expr} {c d : Bool} (h : EvB X env A vm gl k e c k) (h' : c = false → EvT X env A vm gl k .Or es d) : EvT X env A vm gl k .Or (e :: es) (c || d) := by
  intro own s₀ F₀ s Fz f Q E q
  refine wpAny_allTrue_Or_cons (@h _ _ _ _ _ f _ E fun b s₁ F₁ b₁ r₁ => ?_)
  subst r₁
  cases b with
  | false => exact @h' rfl _ _ _ _ _ (f.step b₁) Q E fun x s₂ F₂ b₂ r₂ => q x s₂ F₂ (b₁.trans b₂) (by simpa using r₂)
  | true => exact q _ s₁ F₁ b₁ rfl
theorem evb_bool {op : BoolOp} {es : List PySem.Expr} {pos : Pos} {c : Bool} (h : EvT X env A vm gl k op es c) : EvB X env A vm gl k (.BoolOp op es pos) c k := fun own s₀ F₀ s Fz f Q E q =>
  wpAny_isTrue_BoolOp (@h _ _ _ _ _ f Q E q)
/- and as values -/
inductive BEv (X : Cx) (env : Env) (A : Around) (vm : List (Str × PV)) (gl : Option (Str × List PV)) (k : TS) (op : BoolOp) : List PySem.Expr → PV → Prop
  | one {e : PySem.Expr} {p : PV} : EvE X env A vm gl k e p k → BEv X env A vm gl k op [e] p
  | stop {e e' : PySem.Expr} {es : List PySem.Expr} {p : PV} {c : Bool} : EvE X env A vm gl k e p k → Tr X A p c → (c = match op with | .And => false | .Or => true) → BEv X env A vm gl k op (e :: e' :: es) p
  | go {e e' : PySem.Expr} {es : List PySem.Expr} {p r : PV} {c : Bool} : EvE X env A vm gl k e p k → Tr X A p c → (c = match op with | .And => true | .Or => false) → BEv X env A vm gl k op (e' :: es) r → BEv X env A vm gl k op (e :: e' :: es) r
theorem BEv.run {op : BoolOp} {pos : Pos} {es : List PySem.Expr} {r : PV} (h : BEv X env A vm gl k op es r) : Ev X env A vm gl k (boolOp pos op (evalEach es env)) k fun F v => VR X.t F r v := by
  induction h with
  | one h => exact h
  | @stop e e' es p c h ht hc =>
    intro own s₀ F₀ s Fz f Q E q
    show wpAny X.M A (do
      let v ← eval e env
      standAt pos
      let t ← holding [v] (truthy v)
      match op, t with
      | .And, false | .Or, true => pure v
      | _, _ => boolOp pos op (eval e' env :: evalEach es env)) Q E s
    refine wpAny_bind (@h _ _ _ _ _ f _ E fun v s₁ F₁ b₁ r₁ => wpAny_bind (wpAny_standAt (wpAny_bind (wpAny_holding (ht s₁ F₁ _ v b₁.ok r₁ _ E fun d s₂ F₂ b₂ r₂ => ?_)))))
    rw [r₂, hc]
    cases op <;> exact wpAny_pure (q v s₂ F₂ (b₁.trans b₂) (r₁.mono b₂.ext))
  | @go e e' es p r c h ht hc _ ih =>
    intro own s₀ F₀ s Fz f Q E q
    show wpAny X.M A (do
      let v ← eval e env
      standAt pos
      let t ← holding [v] (truthy v)
      match op, t with
      | .And, false | .Or, true => pure v
      | _, _ => boolOp pos op (eval e' env :: evalEach es env)) Q E s
    refine wpAny_bind (@h _ _ _ _ _ f _ E fun v s₁ F₁ b₁ r₁ => wpAny_bind (wpAny_standAt (wpAny_bind (wpAny_holding (ht s₁ F₁ _ v b₁.ok r₁ _ E fun d s₂ F₂ b₂ r₂ => ?_)))))
    have fin := @ih _ _ _ _ _ ((f.step b₁).step b₂) Q E fun x s₃ F₃ b₃ r₃ => q x s₃ F₃ ((b₁.trans b₂).trans b₃) r₃
    rw [r₂, hc]
    cases op <;> exact fin
theorem ev_bool_op {op : BoolOp} {es : List PySem.Expr} {pos : Pos} {r : PV} (h : BEv X env A vm gl k op es r) : EvE X env A vm gl k (.BoolOp op es pos) r k := fun own s₀ F₀ s Fz f Q E q => by
  rw [arm_eval_BoolOp]; exact h.run _ _ _ _ f Q E q
/-- and of two truths -/
theorem ev_and2 {e e' : PySem.Expr} {pos : Pos} {c d : Bool} (h : EvE X env A vm gl k e (.bool c) k) (h' : c = true → EvE X env A vm gl k e' (.bool d) k) : EvE X env A vm gl k (.BoolOp .And [e, e'] pos) (.bool (c && d)) k := by
  cases c with
  | true => exact ev_bool_op (.go h tr_bool rfl (.one (h' rfl)))
  | false => exact ev_bool_op (.stop h tr_bool rfl)

/- a chain of two comparisons -/
theorem ev_chain {l m r : PySem.Expr} {o1 o2 : CmpOp} {pos : Pos} {p q z : PV} {c d : Bool} (h1 : EvE X env A vm gl k l p k) (h2 : EvE X env A vm gl k m q k) (hc : Bin X A (compareOp o1) p q (.bool c)) (h3 : c = true → EvE X env A vm gl k r z k)
    (hd : c = true → Bin X A (compareOp o2) q z (.bool d)) (hm' : lastMarks [o1, o2] [m, r] = false := by with_unfolding_all rfl) : EvE X env A vm gl k (.Compare l [o1, o2] [m, r] pos) (.bool (c && d)) k := by
  intro own s₀ F₀ s Fz f Q E qq
  refine Compare_chain (@h1 _ _ _ _ _ f _ E fun v s₁ F₁ b₁ r₁ => ?_) hm'
  show wpAny X.M A (do
    let rv ← holding [v] (eval m env)
    standAt pos
    let c ← holding [v, rv] (compareOp o1 v rv)
    release [v, rv] [c]
    if ← holding [c, rv] (truthy c) then compareChain pos rv [o2] [eval r env] else pure c) Q E s₁
  refine wpAny_bind (wpAny_holding (@h2 _ _ _ _ _ (f.step b₁) _ E fun u s₂ F₂ b₂ r₂ => wpAny_bind (wpAny_standAt (wpAny_bind (wpAny_holding (hc s₂ F₂ _ v u b₂.ok (r₁.mono b₂.ext) r₂ _ E fun x s₃ F₃ b₃ r₃ => wpAny_bind (wpAny_release ?_)))))))
  have f₃ := ((f.step b₁).step b₂).step b₃
  have b13 := (b₁.trans b₂).trans b₃
  simp only [VR] at r₃
  subst r₃
  refine wpAny_bind (wpAny_holding (wpAny_truthy_bool ?_))
  cases c with
  | false => exact wpAny_pure (qq _ s₃ F₃ b13 vr_bool)
  | true =>
    rw [if_pos rfl]
    show wpAny X.M A (do
      let rv ← holding [u] (eval r env)
      standAt pos
      operate [u, rv] (compareOp o2 u rv)) Q E s₃
    refine wpAny_bind (wpAny_holding (@h3 rfl _ _ _ _ _ f₃ _ E fun z' s₄ F₄ b₄ r₄ => wpAny_bind (wpAny_standAt (wpAny_operating (hd rfl s₄ F₄ _ u z' b₄.ok ((r₂.mono b₃.ext).mono b₄.ext) r₄ Q E fun y s₅ F₅ b₅ r₅ => qq y s₅ F₅ ((b13.trans b₄).trans b₅) (by simpa using r₅))))))
theorem evb_chain {l m r : PySem.Expr} {o1 o2 : CmpOp} {pos : Pos} {p q z : PV} {c d : Bool} (h1 : EvE X env A vm gl k l p k) (h2 : EvE X env A vm gl k m q k) (hc : Bin X A (compareOp o1) p q (.bool c)) (h3 : c = true → EvE X env A vm gl k r z k)
    (hd : c = true → Bin X A (compareOp o2) q z (.bool d)) (hm' : lastMarks [o1, o2] [m, r] = false := by with_unfolding_all rfl) : EvB X env A vm gl k (.Compare l [o1, o2] [m, r] pos) (c && d) k := by
  intro own s₀ F₀ s Fz f Q E qq
  refine isTrue_chain (@h1 _ _ _ _ _ f _ E fun v s₁ F₁ b₁ r₁ => ?_) hm'
  show wpAny X.M A (do
    let rv ← holding [v] (eval m env)
    standAt pos
    let c ← holding [v, rv] (compareOp o1 v rv)
    release [v, rv] [c]
    if ← holding [c, rv] (truthy c) then testChain pos rv [o2] [eval r env] else pure false) Q E s₁
  refine wpAny_bind (wpAny_holding (@h2 _ _ _ _ _ (f.step b₁) _ E fun u s₂ F₂ b₂ r₂ => wpAny_bind (wpAny_standAt (wpAny_bind (wpAny_holding (hc s₂ F₂ _ v u b₂.ok (r₁.mono b₂.ext) r₂ _ E fun x s₃ F₃ b₃ r₃ => wpAny_bind (wpAny_release ?_)))))))
  have f₃ := ((f.step b₁).step b₂).step b₃
  have b13 := (b₁.trans b₂).trans b₃
  simp only [VR] at r₃
  subst r₃
  refine wpAny_bind (wpAny_holding (wpAny_truthy_bool ?_))
  cases c with
  | false => exact wpAny_pure (qq _ s₃ F₃ b13 rfl)
  | true =>
    rw [if_pos rfl]
    show wpAny X.M A (do
      let rv ← holding [u] (eval r env)
      standAt pos
      let c ← operate [u, rv] (compareOp o2 u rv)
      holding [c] (truthy c)) Q E s₃
    refine wpAny_bind (wpAny_holding (@h3 rfl _ _ _ _ _ f₃ _ E fun z' s₄ F₄ b₄ r₄ => wpAny_bind (wpAny_standAt (wpAny_bind (wpAny_operating (hd rfl s₄ F₄ _ u z' b₄.ok ((r₂.mono b₃.ext).mono b₄.ext) r₄ _ E fun y s₅ F₅ b₅ r₅ => ?_))))))
    simp only [VR] at r₅
    subst r₅
    exact wpAny_holding (wpAny_truthy_bool (qq _ s₅ F₅ ((b13.trans b₄).trans b₅) (by simp)))

/- subscripts -/
noncomputable def GetsBy : PV → String → Prop
  | .list _, T => T = "list"
  | .tup _, T => T = "tuple"
  | .bytes _, T => T = "bytes"
  | _, _ => False
theorem GetsBy.is {p : PV} {T : String} (g : GetsBy p T) {F : FMap} {v : Value} (b : Base X k F s.heap) (h : VR X.t F p v) : s.TypeIs v T := by
  cases p <;> simp only [GetsBy] at g <;> subst g <;> simp only [VR] at h
  · obtain ⟨tk, rfl⟩ := h; rfl
  · obtain ⟨a, vs, rfl, ⟨o, ho, hc, _⟩, _⟩ := h; exact ⟨o, b.now _ _ ho, hc⟩
  · obtain ⟨a, vs, rfl, ⟨o, ho, hc, _⟩, _⟩ := h; exact ⟨o, b.now _ _ ho, hc⟩
theorem GetsBy.slot {p : PV} {T : String} (g : GetsBy p T) : ∃ id, typeLookup (.type T) "__getitem__" = pure (some (.builtin id)) := by
  cases p <;> simp only [GetsBy] at g <;> subst g
  · exact ⟨_, FB.slot_bytes_getitem.lookup⟩
  · exact ⟨_, slot_tuple_getitem.lookup⟩
  · exact ⟨_, slot_list_getitem.lookup⟩
theorem wpAny_letTemp {e : PySem.Expr} {o r : Value} {Q : Unit → Shared → Prop} {E : Value → Shared → Prop} (h : Q () s) : wpAny X.M A (letTemporaryGo e o r) Q E s := by
  have go : wpAny X.M A (do let _ ← holding [r] (runValue (.builtin "proto.let_go" {})) : Sem Unit) Q E s :=
    wpAny_bind (wpAny_holding (wpAny_runValue (codeAny_builtin entry_let_go (show wpAny _ _ (ret .none) _ _ s from wpAny_pure (wpAny_pure h)))))
  unfold letTemporaryGo
  split
  · exact wpAny_pure h
  · exact go
  · exact wpAny_pure h
theorem ev_sub {e i : PySem.Expr} {pos : Pos} {p q z : PV} {T : String} (h : EvE X env A vm gl k e p k₁) (hi : EvE X env A vm gl k₁ i q k₂) (g : GetsBy p T) (hg : Bin X A getItem p q z)
    (hs : ∀ o u, ∃ ops, subscripted i false o u = operate ops (getItem o u) := by exact fun _ _ => ⟨_, rfl⟩) : EvE X env A vm gl k (.Subscript e i pos) z k₂ := by
  intro own s₀ F₀ s Fz f Q E qq
  rw [eval_Subscript]
  refine wpAny_bind (@h _ _ _ _ _ f _ E fun v s₁ F₁ b₁ r₁ => wpAny_bind (wpAny_holding (@hi _ _ _ _ _ (f.step b₁) _ E fun u s₂ F₂ b₂ r₂ => wpAny_bind (wpAny_standAt ?_))))
  have hT : s₂.TypeIs v T := g.is b₂.ok (r₁.mono b₂.ext)
  obtain ⟨id, hl⟩ := g.slot
  refine wpAny_bind ?_
  rw [getitemInPython_of_ne hT.not_modules]
  refine wpAny_bind (wpAny_specialOf hT hl ?_)
  obtain ⟨ops, hs⟩ := hs v u
  have fin : wpAny X.M A (subscripted i false v u) (fun r s₃ => wpAny X.M A (letTemporaryGo e v r >>= fun _ => pure r) Q E s₃) E s₂ := by
    rw [hs]
    exact wpAny_operating (hg s₂ F₂ _ v u b₂.ok (r₁.mono b₂.ext) r₂ _ E fun r s₃ F₃ b₃ r₃ => wpAny_bind (wpAny_letTemp (wpAny_pure (qq r s₃ F₃ ((b₁.trans b₂).trans b₃) r₃))))
  first
    | exact wpAny_pure (wpAny_bind fin)
    | exact wpAny_bind (wpAny_pure (wpAny_bind fin))
    | exact wpAny_bind fin
end
theorem ints_are {t : Addr} {F : FMap} : ∀ {l : List Int} {vs : List Value}, VRs t F (l.map .int) vs → IntsAre vs l
  | [], vs, h => by simp only [List.map_nil, VRs] at h; subst h; exact .nil
  | i :: l, vs, h => by
    simp only [List.map_cons, VRs] at h
    obtain ⟨v, r, rfl, hv, hr⟩ := h
    simp only [VR] at hv
    obtain ⟨tk, rfl⟩ := hv
    exact .cons i tk (ints_are hr)
theorem strs_are {t : Addr} {F : FMap} : ∀ {l : List Str} {vs : List Value}, VRs t F (l.map .str) vs → StrsAre vs l
  | [], vs, h => by simp only [List.map_nil, VRs] at h; subst h; exact .nil
  | i :: l, vs, h => by
    simp only [List.map_cons, VRs] at h
    obtain ⟨v, r, rfl, hv, hr⟩ := h
    simp only [VR] at hv
    obtain ⟨tk, rfl⟩ := hv
    exact .cons i tk (strs_are hr)
theorem VRs.one_inv {t : Addr} {F : FMap} {p : PV} {vs : List Value} (h : VRs t F [p] vs) : ∃ v, vs = [v] ∧ VR t F p v := by
  simp only [VRs] at h; obtain ⟨v, r, rfl, hv, rfl⟩ := h; exact ⟨v, rfl, hv⟩
theorem VRs.two_inv {t : Addr} {F : FMap} {p q : PV} {vs : List Value} (h : VRs t F [p, q] vs) : ∃ v u, vs = [v, u] ∧ VR t F p v ∧ VR t F q u := by
  simp only [VRs] at h; obtain ⟨v, r, rfl, hv, u, r', rfl, hu, rfl⟩ := h; exact ⟨v, u, rfl, hv, hu⟩

/- int in bytes -/
theorem gives_contains (b : Array UInt8) (t u : Tok) (i : Int) (h0 : 0 ≤ i) (h1 : i < 256) : Gives (Builtin.«bytes.__contains__» ⟨[.bytes b t, .int i u], []⟩) (.val (.bool (b.contains i.toNat.toUInt8))) := by
  refine .of_wp fun M A E s Q hq => ?_
  show wpAny M A (do ret (.bool (← Builtin.Bytes.containsIn "bytes.__contains__" (.bytes b t) (.int i u)))) _ E s
  refine wpAny_bind ?_
  unfold Builtin.Bytes.containsIn
  refine wpAny_bind (m := (asIndex (.int i u)).attempt) (wpAny_of_eq (a := .ok i) rfl ?_)
  refine wpAny_bind (wpAny_of_eq KBy.buffer_eq ?_)
  show wpAny M A (if (decide (i < 0) || decide (i ≥ 256)) = true then _ else _) _ E s
  rw [if_neg (by simp; omega)]
  exact wpAny_pure (wpAny_pure ⟨_, rfl, hq⟩)

section
variable {X : Cx} {A : Around}
noncomputable def toB (i : Int) : UInt8 := i.toNat.toUInt8
theorem in_bytes {i : Int} {b : List UInt8} (h0 : 0 ≤ i) (h1 : i < 256) : Bin X A (compareOp .In) (.int i) (.bytes b) (.bool (b.contains (toB i))) := by
  intro s Fz k v u bb hv hu Q E q
  simp only [VR] at hv hu
  obtain ⟨t, rfl⟩ := hv
  obtain ⟨t', rfl⟩ := hu
  refine in_gives (typeIs_bytes s _ _) FB.slot_bytes_contains FB.entry_bytes_contains (FB.args_bytes_contains_2 _ _) (gives_contains b.toArray t' t i h0 h1) (q _ s Fz (BS.refl bb) ?_)
  simp only [VR]; simp [toB]
theorem notin_bytes {i : Int} {b : List UInt8} (h0 : 0 ≤ i) (h1 : i < 256) : Bin X A (compareOp .NotIn) (.int i) (.bytes b) (.bool (!b.contains (toB i))) := by
  intro s Fz k v u bb hv hu Q E q
  simp only [VR] at hv hu
  obtain ⟨t, rfl⟩ := hv
  obtain ⟨t', rfl⟩ := hu
  refine notIn_gives (typeIs_bytes s _ _) FB.slot_bytes_contains FB.entry_bytes_contains (FB.args_bytes_contains_2 _ _) (gives_contains b.toArray t' t i h0 h1) (q _ s Fz (BS.refl bb) ?_)
  simp only [VR]; simp [toB]
theorem in_tupi {i : Int} {l : List Int} : Bin X A (compareOp .In) (.int i) (.tup (l.map .int)) (.bool (l.any (· == i))) := by
  intro s Fz k v u bb hv hu Q E q
  simp only [VR] at hv hu
  obtain ⟨t, rfl⟩ := hv
  obtain ⟨a, vs, rfl, ⟨o, ho, hc, n, hd⟩, hvs⟩ := hu
  exact in_tuple_ints ⟨o, bb.now _ _ ho, hc, n, hd⟩ (by simpa using ints_are hvs) (q _ s Fz (BS.refl bb) vr_bool)
theorem notin_tupi {i : Int} {l : List Int} : Bin X A (compareOp .NotIn) (.int i) (.tup (l.map .int)) (.bool (!l.any (· == i))) := by
  intro s Fz k v u bb hv hu Q E q
  simp only [VR] at hv hu
  obtain ⟨t, rfl⟩ := hv
  obtain ⟨a, vs, rfl, ⟨o, ho, hc, n, hd⟩, hvs⟩ := hu
  exact notin_tuple_ints ⟨o, bb.now _ _ ho, hc, n, hd⟩ (by simpa using ints_are hvs) (q _ s Fz (BS.refl bb) vr_bool)
theorem notin_lists {x : Str} {l : List Str} : Bin X A (compareOp .NotIn) (.str x) (.list (l.map .str)) (.bool (!l.any (· == x))) := by
  intro s Fz k v u bb hv hu Q E q
  simp only [VR] at hv hu
  obtain ⟨t, rfl⟩ := hv
  obtain ⟨a, vs, rfl, ⟨o, ho, hc, n, hd⟩, hvs⟩ := hu
  exact notin_list_strs ⟨o, bb.now _ _ ho, hc, n, hd⟩ (strs_are hvs) (q _ s Fz (BS.refl bb) vr_bool)

/- calls of builtins -/
theorem len_b {b : List UInt8} {k : TS} (h : b.length ≤ 16777216) : CSpec X A (.builtin "len") [.bytes b] k (.int b.length) k := by
  intro s Fz vs bb hvs Q E q
  obtain ⟨v, rfl, hv⟩ := hvs.one_inv
  simp only [VR] at hv
  obtain ⟨t, rfl⟩ := hv
  exact len_bytes (by simp only [List.size_toArray]; omega) (by simpa using q _ _ Fz (BS.toks bb _) vr_int)
theorem len_s {x : Str} {k : TS} (h : x.length ≤ 16777216) : CSpec X A (.builtin "len") [.str x] k (.int x.length) k := by
  intro s Fz vs bb hvs Q E q
  obtain ⟨v, rfl, hv⟩ := hvs.one_inv
  simp only [VR] at hv
  obtain ⟨t, rfl⟩ := hv
  exact P.len_str (by omega) (q _ _ Fz (BS.toks bb _) vr_int)
theorem len_l {l : List PV} {k : TS} (h : l.length ≤ 16777216) : CSpec X A (.builtin "len") [.list l] k (.int l.length) k := by
  intro s Fz vs bb hvs Q E q
  obtain ⟨v, rfl, hv⟩ := hvs.one_inv
  simp only [VR] at hv
  obtain ⟨a, us, rfl, ⟨o, ho, hc, n, hd⟩, hus⟩ := hv
  refine Calls.call_len_list ⟨o, bb.now _ _ ho, hc, n, hd⟩ ?_ (q _ _ Fz (BS.toks bb _) ?_)
  · have := hus.length; simp; omega
  · have := hus.length
    rw [show ((us.toArray.size : Nat) : Int) = (l.length : Int) by simp; omega]; exact vr_int
theorem ord_c {c : Nat} {k : TS} : CSpec X A (.builtin "ord") [.str ⟨#[c]⟩] k (.int c) k := by
  intro s Fz vs bb hvs Q E q
  obtain ⟨v, rfl, hv⟩ := hvs.one_inv
  simp only [VR] at hv
  obtain ⟨t, rfl⟩ := hv
  exact P.ord_of_char (q _ _ Fz (BS.toks bb _) vr_int)
theorem chr_i {i : Int} {k : TS} (h0 : 0 ≤ i) (h1 : i ≤ 1114111) : CSpec X A (.builtin "chr") [.int i] k (.str ⟨#[i.toNat]⟩) k := by
  intro s Fz vs bb hvs Q E q
  obtain ⟨v, rfl, hv⟩ := hvs.one_inv
  simp only [VR] at hv
  obtain ⟨t, rfl⟩ := hv
  exact P.chr_of_int (by simp; omega) (q _ _ Fz (BS.toks bb _) vr_str)
theorem str_i {i : Int} {k : TS} (h : i.natAbs.log2 < 1920) : CSpec X A (.type "str") [.int i] k (.str (toString i)) k := by
  intro s Fz vs bb hvs Q E q
  obtain ⟨v, rfl, hv⟩ := hvs.one_inv
  simp only [VR] at hv
  obtain ⟨t, rfl⟩ := hv
  exact P.str_of_int h (q _ _ Fz (BS.toks bb _) vr_str)
theorem bytes_l {l : List Int} {k : TS} (hh : A.handled = none) (hr : ∀ n ∈ l, 0 ≤ n ∧ n < 256) (hz : l.length ≤ sizeLine) : CSpec X A (.type "bytes") [.list (l.map .int)] k (.bytes (l.map toB)) k := by
  intro s Fz vs bb hvs Q E q
  obtain ⟨v, rfl, hv⟩ := hvs.one_inv
  simp only [VR] at hv
  obtain ⟨a, us, rfl, ⟨o, ho, hc, n, hd⟩, hus⟩ := hv
  refine call_bytes_ints ⟨o, bb.now _ _ ho, hc, n, hd⟩ (ints_are hus) hr (by rw [hus.length]; simpa using hz) hh fun h' t tk hk => q _ _ Fz (PS.bs ⟨⟨_, _, rfl⟩, hk⟩ bb) ?_
  simp only [VR]; exact ⟨t, rfl⟩
theorem max_i {a b : Int} {k : TS} (hh : A.handled = none) : CSpec X A (.builtin "max") [.int a, .int b] k (.int (if b > a then b else a)) k := by
  intro s Fz vs bb hvs Q E q
  obtain ⟨v, u, rfl, hv, hu⟩ := hvs.two_inv
  simp only [VR] at hv hu
  obtain ⟨t, rfl⟩ := hv
  obtain ⟨t', rfl⟩ := hu
  refine max_two_ints hh fun h' tk hk => q _ _ Fz (PS.bs ⟨⟨_, _, rfl⟩, hk⟩ bb) ?_
  split <;> exact vr_int
theorem list_of {p : PV} {l : List PV} {k : TS} (hp : p = .list l ∨ p = .tup l) (hz : l.length ≤ sizeLine) : CSpec X A (.type "list") [p] k (.list l) k := by
  intro s Fz vs bb hvs Q E q
  obtain ⟨v, rfl, hv⟩ := hvs.one_inv
  have key : ∃ a us T o n, v = .ref a ∧ (T = "list" ∨ T = "tuple") ∧ Fz a = some o ∧ o.cls = .type T ∧ o.data = .seq us n ∧ VRs X.t Fz l us.toList := by
    rcases hp with rfl | rfl <;> simp only [VR] at hv
    · obtain ⟨a, us, rfl, ⟨o, ho, hc, n, hd⟩, hus⟩ := hv; exact ⟨a, us.toArray, _, o, n, rfl, .inl rfl, ho, hc, hd, hus⟩
    · obtain ⟨a, us, rfl, ⟨o, ho, hc, n, hd⟩, hus⟩ := hv; exact ⟨a, us.toArray, _, o, n, rfl, .inr rfl, ho, hc, hd, hus⟩
  obtain ⟨a, us, T, o, n, rfl, hT, ho, hc, hd, hus⟩ := key
  refine call_list_seq a hT (bb.now _ _ ho) hc hd (fun h' c' hk hD => ?_) (by have := hus.length; simp at this; omega)
  have b₁ : BS X s Fz k Fz { s with heap := h' } := PS.bs ⟨⟨_, _, rfl⟩, hk⟩ bb
  have hn : Fz s.heap.objs.size = none := by
    cases e : Fz s.heap.objs.size with
    | none => rfl
    | some o' => exact absurd (bb.lt e) (Nat.lt_irrefl _)
  have ht : s.heap.objs.size ≠ X.t := fun e => by
    obtain ⟨o', ho'⟩ := bb.tis
    rw [← e] at ho'; exact absurd (Heap.lt_size ho') (Nat.lt_irrefl _)
  refine q _ _ _ (b₁.freeze hD (get_size _) hn ht) ?_
  simp only [VR]
  exact ⟨_, us.toList, rfl, ⟨_, FMap.put_self, rfl, c', by simp⟩, hus.mono (FMap.put_ext hn)⟩
theorem range_i {n : Nat} {k : TS} : CSpec X A (.type "range") [.int n] k (.range n) k := by
  intro s Fz vs bb hvs Q E q
  obtain ⟨v, rfl, hv⟩ := hvs.one_inv
  simp only [VR] at hv
  obtain ⟨t, rfl⟩ := hv
  refine call_range_1 ?_
  refine q _ _ _ (BS.push bb rfl) ?_
  simp only [VR]
  exact ⟨_, _, _, _, rfl, FMap.put_self⟩
end

theorem slot_find : Slot "bytes" "find" "bytes.find" :=
  .of (owner := "bytes") (n := "find") (by rw [typeLookup_type, builtinLookup_eq_fast]; kernel_rfl) (by decide +kernel) (by decide +kernel) (by decide +kernel)
    (by first | exact .inl (by decide +kernel) | exact .inr (by decide +kernel)) (by rw [isSubtype_type]; kernel_rfl)
theorem type_find : typeOf (.builtin "bytes.find") = pure (.type "method_descriptor") := by show builtinType _ = _; rw [builtinType_eq_fast]; kernel_rfl
theorem entry_find : entryFor table "bytes.find" = some Builtin.«bytes.find» := entryFor_of_tree (by kernel_rfl)
theorem args_find (a b c d : Value) : argsOk "bytes.find" ⟨[a, b, c, d], []⟩ := by
  unfold argsOk; rw [signature?_of (id := "bytes.find") (n := "find".toList.reverse) (o := "bytes".toList.reverse) (by kernel_rfl) FB.owner_bytes]; kernel_rfl
theorem slot_join : Slot "bytes" "join" "bytes.join" :=
  .of (owner := "bytes") (n := "join") (by rw [typeLookup_type, builtinLookup_eq_fast]; kernel_rfl) (by decide +kernel) (by decide +kernel) (by decide +kernel)
    (by first | exact .inl (by decide +kernel) | exact .inr (by decide +kernel)) (by rw [isSubtype_type]; kernel_rfl)
theorem type_join : typeOf (.builtin "bytes.join") = pure (.type "method_descriptor") := by show builtinType _ = _; rw [builtinType_eq_fast]; kernel_rfl
theorem entry_join : entryFor table "bytes.join" = some Builtin.«bytes.join» := entryFor_of_tree (by kernel_rfl)
theorem args_join (a b : Value) : argsOk "bytes.join" ⟨[a, b], []⟩ := by
  unfold argsOk; rw [signature?_of (id := "bytes.join") (n := "join".toList.reverse) (o := "bytes".toList.reverse) (by kernel_rfl) FB.owner_bytes]; kernel_rfl
theorem slot_split : Slot "bytes" "split" "bytes.split" :=
  .of (owner := "bytes") (n := "split") (by rw [typeLookup_type, builtinLookup_eq_fast]; kernel_rfl) (by decide +kernel) (by decide +kernel) (by decide +kernel)
    (by first | exact .inl (by decide +kernel) | exact .inr (by decide +kernel)) (by rw [isSubtype_type]; kernel_rfl)
theorem type_split : typeOf (.builtin "bytes.split") = pure (.type "method_descriptor") := by show builtinType _ = _; rw [builtinType_eq_fast]; kernel_rfl
theorem entry_split : entryFor table "bytes.split" = some Builtin.«bytes.split» := entryFor_of_tree (by kernel_rfl)
theorem args_split (a b : Value) : argsOk "bytes.split" ⟨[a, b], []⟩ := by
  unfold argsOk; rw [signature?_of (id := "bytes.split") (n := "split".toList.reverse) (o := "bytes".toList.reverse) (by kernel_rfl) FB.owner_bytes]; kernel_rfl

section
variable {X : Cx} {A : Around} {s : Shared} {E : Value → Shared → Prop} {Q : Value → Shared → Prop}
open Builtin

theorem bound_int {i : Int} {t : Tok} : Bytes.bound? (some (.int i t)) = pure (some i) := by
  unfold Bytes.bound?
  dsimp only
  rw [show specialOf (.int i t) (Str.ofString "__index__") = typeLookup (.type "int") "__index__" from rfl, F.slot_int_index.lookup]
  rfl
theorem window_of {n : Nat} {lo hi : Int} (h0 : 0 ≤ lo) (h1 : 0 ≤ hi) (h2 : hi ≤ n) : Bytes.window n (some lo) (some hi) = (lo, hi) := by
  unfold Bytes.window
  simp only [Option.getD_some]
  rw [if_neg (by omega), if_neg (by omega)]
  congr 1
  omega
theorem call_find {b sub : Array UInt8} {t u tl th : Tok} {lo hi : Nat} (hh : hi ≤ b.size)
    (h : Q (.int (match Bytes.find? b sub lo hi with | some i => (i : Int) | none => -1) s.toks) { s with toks := s.toks + 1 }) :
    wpAny X.M A (call (.builtin "bytes.find") [.bytes b t, .bytes sub u, .int lo tl, .int hi th]) Q E s := by
  refine wpAny_call_entry slot_find (typeIs_bytes s b t) entry_find ?_ (args_find _ _ _ _)
  show wpAny _ _ (Bytes.searchArgs .bytes "find" ⟨[.bytes b t, .bytes sub u, .int lo tl, .int hi th], []⟩ >>= _) _ E s
  refine wpAny_bind ?_
  unfold Bytes.searchArgs
  refine wpAny_bind (wpAny_of_eq (a := (.bytes b t, [.bytes sub u, .int lo tl, .int hi th])) rfl ?_)
  show wpAny _ _ (Bytes.bound? (some (.int lo tl)) >>= _) _ E s
  refine wpAny_bind (wpAny_of_eq bound_int ?_)
  show wpAny _ _ (Bytes.bound? (some (.int hi th)) >>= _) _ E s
  refine wpAny_bind (wpAny_of_eq bound_int ?_)
  show wpAny _ _ (Bytes.buffer? _ (.bytes sub u) >>= _) _ E s
  refine wpAny_bind (wpAny_of_eq KBy.buffer_eq ?_)
  dsimp only
  refine wpAny_bind (wpAny_pure ?_)
  refine wpAny_bind (wpAny_of_eq (a := b) rfl ?_)
  rw [window_of (by omega) (by omega) (by omega)]
  dsimp only
  by_cases hl : lo + sub.size ≤ hi
  · rw [if_neg (by omega)]
    refine wpAny_pure ?_
    simp only [Int.toNat_natCast]
    dsimp only [Option.bind]
    simp only [Bool.false_eq_true, if_false]
    cases hf : Bytes.find? b sub lo hi with
    | some i =>
      rw [hf] at h
      exact wpAny_bind (wpAny_mkInt (wpAny_pure ⟨_, rfl, h⟩))
    | none =>
      rw [hf] at h
      exact wpAny_bind (wpAny_rule (wpAny_bind (wpAny_mkInt (wpAny_pure ⟨_, rfl, h⟩))))
  · rw [if_pos (by omega)]
    refine wpAny_pure ?_
    have hf : Bytes.find? b sub lo hi = none := by
      unfold Bytes.find?
      rw [show hi + 1 - (lo + sub.size) = 0 by omega]
      rfl
    rw [hf] at h
    dsimp only [Option.bind]
    exact wpAny_bind (wpAny_rule (wpAny_bind (wpAny_mkInt (wpAny_pure ⟨_, rfl, h⟩))))
end
inductive BytesAre : List Value → List (List UInt8) → Prop
  | nil : BytesAre [] []
  | cons (b : List UInt8) (t : Tok) {vs bs} : BytesAre vs bs → BytesAre (.bytes b.toArray t :: vs) (b :: bs)
theorem bytes_are {t : Addr} {F : FMap} : ∀ {l : List (List UInt8)} {vs : List Value}, VRs t F (l.map .bytes) vs → BytesAre vs l
  | [], vs, h => by simp only [List.map_nil, VRs] at h; subst h; exact .nil
  | i :: l, vs, h => by
    simp only [List.map_cons, VRs] at h
    obtain ⟨v, r, rfl, hv, hr⟩ := h
    simp only [VR] at hv
    obtain ⟨tk, rfl⟩ := hv
    exact .cons i tk (bytes_are hr)
theorem BytesAre.get {vs : List Value} {bs : List (List UInt8)} (h : BytesAre vs bs) : ∀ {i : Nat}, i < vs.length → ∃ b t, vs.getD i .none = .bytes b t ∧ bs[i]? = some b.toList := by
  induction h with
  | nil => intro i hi; simp at hi
  | cons b t _ ih =>
    intro i hi
    cases i with
    | zero => exact ⟨_, t, rfl, by simp⟩
    | succ i =>
      obtain ⟨b', t', e1, e2⟩ := ih (i := i) (by simpa using hi)
      exact ⟨b', t', by simpa using e1, by simpa using e2⟩
theorem BytesAre.length {vs : List Value} {bs : List (List UInt8)} (h : BytesAre vs bs) : vs.length = bs.length := by
  induction h with
  | nil => rfl
  | cons b t _ ih => simp [ih]
section
variable {X : Cx} {A : Around} {s : Shared} {E : Value → Shared → Prop} {Q : Value → Shared → Prop}
open Builtin
theorem buf_eq {id : String} {b : Array UInt8} {t : Tok} {full : Bool} : Bytes.buffer? id (.bytes b t) full = pure (some b) := by
  unfold Bytes.buffer?
  rw [KBy.special_eq KBy.look_buffer, KBy.own_buffer, KBy.own_release]
  kernel_rfl
theorem take_eq {id : String} {b : Array UInt8} {t : Tok} : Bytes.takeBufferQuiet? id (.bytes b t) 0 = pure (some (b, none)) := by
  unfold Bytes.takeBufferQuiet? Bytes.takeBuffer?
  rw [KBy.special_eq KBy.look_buffer, KBy.own_buffer]
  simp only [buf_eq]
  kernel_rfl
theorem BytesAre.notHeap {vs : List Value} {bs : List (List UInt8)} (h : BytesAre vs bs) : ∀ v ∈ vs, v.onHeap = false := by
  induction h with
  | nil => intro v hv; cases hv
  | cons b t _ ih =>
    intro v hv
    rcases List.mem_cons.mp hv with rfl | hv
    · rfl
    · exact ih v hv
theorem joinLet {Q : Unit → Shared → Prop} (h : Q () s) : ∀ {taken : List (Value × Option Value)} {keep : List Value}, (∀ p ∈ taken, p.2 = none) → wpAny X.M A (Bytes.joinLetGo taken keep) Q E s
  | [], keep, _ => wpAny_pure h
  | (x, w) :: r, keep, hp => by
    unfold Bytes.joinLetGo
    obtain rfl : w = none := hp _ List.mem_cons_self
    exact wpAny_bind (wpAny_letGo (joinLet h fun p q => hp p (List.mem_cons_of_mem _ q)))
theorem sizes (sep : Nat) (l : List (Array UInt8)) : ∀ n, l.foldl (· + ·.size) n = n + (l.map Array.size).sum := by
  induction l with
  | nil => intro n; simp
  | cons x r ih => intro n; rw [List.foldl_cons, ih]; simp; omega
theorem joined_length (sep : Array UInt8) : ∀ (l : List (Array UInt8)) (k : Nat) (out : Array UInt8), ((l.zipIdx k).foldl (fun out (p, i) => (if i > 0 then out ++ sep else out) ++ p) out).size ≤ out.size + (l.map Array.size).sum + sep.size * l.length
  | [], k, out => by simp
  | x :: r, k, out => by
    rw [List.zipIdx_cons, List.foldl_cons]
    refine Nat.le_trans (joined_length sep r (k + 1) _) ?_
    simp only [List.map_cons, List.sum_cons, List.length_cons, Nat.mul_add]
    split <;> simp <;> omega

theorem call_join {sep : Array UInt8} {t : Tok} {a : Addr} {vs : List Value} {bs : List (List UInt8)} (hl : s.heap.IsList a vs.toArray) (hv : BytesAre vs bs)
    (hsz : (bs.map List.length).sum + sep.size * bs.length ≤ 16777216)
    (h : ∀ t' k, Q (.bytes (Bytes.joined sep (bs.map List.toArray)) t') { s with toks := k }) :
    wpAny X.M A (call (.builtin "bytes.join") [.bytes sep t, .ref a]) Q E s := by
  obtain ⟨o, ho, hc, n, hd⟩ := hl
  refine wpAny_call_entry slot_join (typeIs_bytes s sep t) entry_join ?_ (args_join _ _)
  show wpAny _ _ (selfAndOne _ ⟨[.bytes sep t, .ref a], []⟩ >>= _) _ E s
  refine wpAny_bind (wpAny_of_eq (a := (.bytes sep t, .ref a)) rfl ?_)
  show wpAny _ _ (Bytes.joinItems (.ref a) >>= _) _ E s
  refine wpAny_bind ?_
  unfold Bytes.joinItems
  refine wpAny_bind (wpAny_typeOf (T := "list") ⟨o, ho, hc⟩ ?_)
  refine wpAny_pure ?_
  refine wpAny_bind (wpAny_seqItems ho hd ?_)
  dsimp only
  rw [if_pos (show (Bytes.Kind.bytes == Bytes.Kind.bytes) = true from rfl)]
  have hst : ∀ k, ({ s with toks := k } : Shared).heap = s.heap := fun _ => rfl
  have fin : ∀ (p : Array (Array UInt8) × List (Value × Option Value)), p.1 = (bs.map List.toArray).toArray → (∀ q ∈ p.2, q.2 = none) →
      wpAny X.M A.in1 (do
        let sep' ← Bytes.payload (.bytes sep t)
        let parts := p.1
        let taken := p.2
        if Bytes.tooLong (parts.foldl (· + ·.size) (sep'.size * (parts.size - 1))) then unsupported (toString (toString Bytes.Kind.bytes.name ++ toString ".join") ++ toString ":memory")
        let result ← Bytes.Kind.bytes.new (Bytes.joined sep' parts.toList)
        holding (result :: taken.flatMap fun (y, u) => y :: u.toList) point
        Bytes.joinLetGo taken [result]
        ret result) (fun fin s' => ∃ v, fin = .done (.ret v) ∧ Q v s') E s := by
    intro p h1 h2
    refine wpAny_bind (wpAny_of_eq (a := sep) rfl ?_)
    dsimp only
    have hlen : (bs.map (Array.size ∘ List.toArray)).sum = (bs.map List.length).sum := by congr 1
    have hms : sep.size * (bs.length - 1) ≤ sep.size * bs.length := Nat.mul_le_mul_left _ (Nat.sub_le _ _)
    rw [if_neg (by
      rw [h1, ← Array.foldl_toList, sizes 0]
      simp only [List.map_map, List.size_toArray, List.length_map]
      rw [KBy.tooLong_not (by rw [hlen]; omega)]
      exact Bool.false_ne_true)]
    show wpAny _ _ (mkBytes (Bytes.joined sep p.1.toList) >>= _) _ _ s
    rw [h1]
    refine wpAny_bind (wpAny_mkBytes ?_ ?_)
    · refine wpAny_bind (wpAny_holding (wpAny_point (wpAny_bind (joinLet (wpAny_pure ⟨_, rfl, ?_⟩) h2))))
      exact h _ _
    · have := joined_length sep (bs.map List.toArray) 0 #[]
      rw [sizeLine_eq]
      unfold Bytes.joined
      refine Nat.le_trans this ?_
      simp only [List.map_map, List.length_map, List.size_toArray, List.length_nil]
      rw [hlen]; omega
  have nh := hv.notHeap
  have loop : ∀ (f : Nat → Array (Array UInt8) × List (Value × Option Value) → Sem (ForInStep (Array (Array UInt8) × List (Value × Option Value)))),
      (∀ i p b t', i < vs.length → vs.getD i .none = .bytes b t' → (p.2.any fun x => x.1.onHeap) = false → ∀ Q' E', Q' (ForInStep.yield (p.1.push b, p.2 ++ [(.bytes b t', none)])) s → wpAny X.M A.in1 (f i p) Q' E' s) →
      wpAny X.M A.in1 (forIn [:vs.toArray.size] ((#[], []) : Array (Array UInt8) × List (Value × Option Value)) f) (fun p s' => s' = s ∧ p.1 = (bs.map List.toArray).toArray ∧ ∀ q ∈ p.2, q.2 = none) E s := by
    intro f hf
    rw [Std.Legacy.Range.forIn_eq_forIn_range']
    refine wpAny_forIn_list _ (fun rest p s' => s' = s ∧ ∃ i, i ≤ vs.length ∧ rest = List.range' i (vs.length - i) 1 ∧ p.1 = ((bs.take i).map List.toArray).toArray ∧ (∀ q ∈ p.2, q.2 = none ∧ q.1.onHeap = false)) _ ?_ ?_ _ _ ?_
    · rintro x rest p s' ⟨rfl, i, hi, hr, h1, h2⟩
      have hlt : i < vs.length := by
        cases hz : vs.length - i with
        | zero => rw [hz] at hr; simp at hr
        | succ m => omega
      obtain ⟨b, t', e1, e2⟩ := hv.get hlt
      obtain ⟨m, hm⟩ : ∃ m, vs.length - i = m + 1 := ⟨vs.length - i - 1, by omega⟩
      rw [hm, List.range'_succ] at hr
      cases hr
      refine hf x p b t' hlt e1 (by
        rw [List.any_eq_false]; intro q hq; rw [(h2 q hq).2]; decide) _ _ ⟨rfl, x + 1, hlt, by rw [show vs.length - (x + 1) = m by omega], ?_, fun q hq => ?_⟩
      · rw [h1, List.take_add_one, e2]
        simp
      · rcases List.mem_append.mp hq with hq | hq
        · exact h2 q hq
        · simp at hq; subst hq; exact ⟨rfl, rfl⟩
    · intro p s' hI
      obtain ⟨hs, i, hi, hr, h1, h2⟩ := hI
      subst hs
      have : vs.length - i = 0 := by
        have := congrArg List.length hr
        simpa using this.symm
      have hil : i = bs.length := by rw [← hv.length]; omega
      refine ⟨rfl, ?_, fun q hq => (h2 q hq).1⟩
      rw [h1, hil, List.take_length]
    · exact ⟨rfl, 0, Nat.zero_le _, by simp, by simp, fun q hq => nomatch hq⟩
  have one : ∀ x, vs = [x] → ∃ b t', x = .bytes b t' ∧ bs = [b.toList] := fun x e => by
    subst e
    cases hv with
    | cons b t' hr => cases hr; exact ⟨_, t', rfl, rfl⟩
  by_cases h1 : vs.length = 1
  · obtain ⟨x, hx⟩ := List.length_eq_one_iff.mp h1
    subst hx
    obtain ⟨b, t', rfl, rfl⟩ := one x rfl
    refine wpAny_bind (m := typeOf (.bytes b t')) (wpAny_typeOf (T := "bytes") rfl ?_)
    rw [if_pos (show (Value.type "bytes" == Value.type "bytes") = true from rfl)]
    refine wpAny_bind (wpAny_rule (wpAny_pure ⟨_, rfl, ?_⟩))
    have := h t' s.toks
    show Q (.bytes b t') s
    simpa [Bytes.joined] using this
  · rcases vs with _ | ⟨x, _ | ⟨y, r⟩⟩
    · refine wpAny_bind (m := forIn _ _ _) (wpAny_mono (loop _ fun i p b t' hi e hp Q' E' hq => ?_) (fun p s' hp => ?_) fun _ _ e => e)
      · simp at hi
      · obtain ⟨rfl, h1, h2⟩ := hp
        exact fin p h1 h2
    · exact absurd rfl h1
    · refine wpAny_bind (m := forIn _ _ _) (wpAny_mono (loop _ fun i p b t' hi e hp Q' E' hq => ?_) (fun p s' hp => ?_) fun _ _ e => e)
      · refine wpAny_bind (wpAny_seqItems ho hd ?_)
        dsimp only
        rw [if_neg (show ¬ ((Bytes.Kind.bytes == Bytes.Kind.bytearray || p.2.any fun x => x.1.onHeap) = true) by rw [hp]; decide)]
        have e' : (x :: y :: r).toArray.getD i Value.none = Value.bytes b t' := by simpa using e
        rw [e', take_eq]
        refine wpAny_bind (wpAny_holding (wpAny_pure ?_))
        dsimp only
        refine wpAny_bind (wpAny_seqItems ho hd ?_)
        dsimp only
        rw [if_neg (by simp)]
        exact wpAny_pure hq
      · obtain ⟨rfl, h1, h2⟩ := hp
        exact fin p h1 h2
end
section
variable {X : Cx} {A : Around} {s : Shared} {E : Value → Shared → Prop} {Q : Value → Shared → Prop}
open Builtin
theorem bind_split (v : Value) : Bytes.bindOptional "bytes.split" "split" ["sep", "maxsplit"] [v] [] = pure [some v, none] := by kernel_rfl
theorem like_eq {id : String} {b : Array UInt8} {t : Tok} : Bytes.bytesLike id (.bytes b t) = pure b := by
  unfold Bytes.bytesLike
  rw [buf_eq]
  rfl
noncomputable def splitParts (b sep : Array UInt8) : List (Array UInt8) := Bytes.between b sep.size ((Bytes.occurrences b sep 0 b.size).take (b.size + 1))
theorem mapM_new {Q : List Value → Shared → Prop} : ∀ {l : List (Array UInt8)} {s : Shared}, (∀ x ∈ l, x.size ≤ sizeLine) → (∀ vs k, BytesAre vs (l.map Array.toList) → Q vs { s with toks := k }) → wpAny X.M A (l.mapM Bytes.Kind.bytes.new) Q E s
  | [], s, _, h => by rw [List.mapM_nil]; exact wpAny_pure (h [] s.toks .nil)
  | x :: r, s, hz, h => by
    rw [List.mapM_cons]
    refine wpAny_bind ?_
    show wpAny X.M A (mkBytes x) _ E s
    refine wpAny_mkBytes ?_ (hz x List.mem_cons_self)
    refine wpAny_bind (mapM_new (fun y hy => hz y (List.mem_cons_of_mem _ hy)) fun vs k hv => wpAny_pure ?_)
    exact h _ k (by simpa using BytesAre.cons x.toList s.toks hv)
theorem call_split {b sep : Array UInt8} {t u : Tok} (hs : sep.isEmpty = false) (hz : ∀ x ∈ splitParts b sep, x.size ≤ sizeLine) (hn : (splitParts b sep).length ≤ sizeLine)
    (h : ∀ vs k, BytesAre vs ((splitParts b sep).map Array.toList) → Q (.ref s.heap.objs.size) { s with heap := s.heap.push { cls := .type "list", data := .seq vs.toArray }, toks := k }) :
    wpAny X.M A (call (.builtin "bytes.split") [.bytes b t, .bytes sep u]) Q E s := by
  refine wpAny_call_entry slot_split (typeIs_bytes s b t) entry_split ?_ (args_split _ _)
  show wpAny _ _ (Bytes.bindOptional "bytes.split" "split" ["sep", "maxsplit"] [.bytes sep u] [] >>= _) _ E s
  rw [bind_split]
  refine wpAny_bind (wpAny_pure ?_)
  dsimp only
  refine wpAny_bind (wpAny_pure ?_)
  refine wpAny_bind (wpAny_of_eq (a := b) rfl ?_)
  show wpAny _ _ (Bytes.bytesLike _ (.bytes sep u) >>= _) _ E s
  refine wpAny_bind (wpAny_of_eq like_eq ?_)
  rw [if_neg (by rw [hs]; exact Bool.false_ne_true)]
  simp only [show ((-1 : Int) < 0) = True by simp, if_true, Bool.false_eq_true, if_false]
  by_cases hp : ((Bytes.occurrences b sep 0 b.size).take (b.size + 1)).isEmpty = true
  · rw [if_pos hp]
    refine wpAny_bind (wpAny_rule ?_)
    have hp' := List.isEmpty_iff.mp hp
    have e : splitParts b sep = [b] := by unfold splitParts; rw [hp']; simp [Bytes.between]
    refine wpAny_bind ?_
    unfold Bytes.Kind.same
    rw [if_pos (show (Bytes.Kind.bytes == Bytes.Kind.bytes) = true from rfl)]
    refine wpAny_bind (wpAny_typeOf (T := "bytes") rfl ?_)
    rw [if_pos (show (Value.type "bytes" == Value.type "bytes") = true from rfl)]
    refine wpAny_pure (wpAny_bind (wpAny_newObj_type (wpAny_pure ⟨_, rfl, ?_⟩) (by show 1 ≤ sizeLine; decide)))
    rw [e] at h
    exact h [.bytes b t] s.toks (by simpa using BytesAre.cons b.toList t .nil)
  · rw [if_neg hp]
    refine wpAny_bind (mapM_new hz fun vs k hv => wpAny_bind (wpAny_newObj_type (wpAny_pure ⟨_, rfl, h vs k hv⟩) ?_))
    show vs.toArray.size ≤ sizeLine
    rw [List.size_toArray, hv.length, List.length_map]
    exact hn
end

theorem KeyVals.find {name : Str} : ∀ {ks : List Str} {vs : List Value} {es : List DictEntry}, KeyVals ks vs es → ∀ {i : Nat}, ks.findIdx? (· == name) = some i → ∃ v, vs[i]? = some v ∧ getL name es = some (some v)
  | _, _, _, .nil, i, h => by simp at h
  | _, _, _, .cons (k := k) (ks := ks) (v := v) (vs := vs) (es := es) (h := hh) (tk := tk) r, i, h => by
    rw [List.findIdx?_cons] at h
    have e : (⟨hh, .str k tk, v⟩ : DictEntry).key.isStr name = (k == name) := rfl
    unfold getL
    rw [List.find?_cons, e]
    cases hb : k == name with
    | true =>
      rw [hb] at h; simp at h; subst h
      exact ⟨v, rfl, rfl⟩
    | false =>
      rw [hb] at h; simp at h
      obtain ⟨j, hj, rfl⟩ := h
      obtain ⟨u, h1, h2⟩ := KeyVals.find r (i := j) (by simpa using hj)
      refine ⟨u, by simpa using h1, ?_⟩
      unfold getL at h2
      rw [← h2]
      dsimp only
      cases es.find? (fun x => x.key.isStr name) <;> simp [DictEntry.refKey]
theorem KeyVals.miss {name : Str} : ∀ {ks : List Str} {vs : List Value} {es : List DictEntry}, KeyVals ks vs es → ks.findIdx? (· == name) = none → getL name es = some none
  | _, _, _, .nil, _ => rfl
  | _, _, _, .cons (k := k) (ks := ks) (v := v) (vs := vs) (es := es) (h := hh) (tk := tk) r, h => by
    rw [List.findIdx?_cons] at h
    have e : (⟨hh, .str k tk, v⟩ : DictEntry).key.isStr name = (k == name) := rfl
    cases hb : k == name with
    | true => rw [hb] at h; simp at h
    | false =>
      rw [hb] at h
      have h2 := KeyVals.miss r (name := name) (by simpa using h)
      unfold getL at h2 ⊢
      rw [List.find?_cons, e, hb]
      rw [← h2]
      dsimp only
      cases es.find? (fun x => x.key.isStr name) <;> simp [DictEntry.refKey]

noncomputable def plainPV : PV → Bool
  | .glob _ => false
  | _ => true
theorem plain_handed {t : Addr} {F : FMap} {p : PV} {v : Value} (hp : plainPV p = true) (h : VR t F p v) : handedIn v = true := by
  cases p <;> simp only [VR] at h <;> first
    | (subst h; rfl)
    | (obtain ⟨_, rfl⟩ := h; rfl)
    | (obtain ⟨_, _, rfl, _⟩ := h; rfl)
    | (obtain ⟨_, _, _, _, rfl, _⟩ := h; rfl)
    | (obtain ⟨_, _, _, _, _, rfl, _⟩ := h; rfl)
    | (obtain ⟨_, _, _, _, _, _, rfl, _⟩ := h; rfl)
    | (cases hp; done)
noncomputable def attrOk (K : Frag) (C : Addr) (name : Str) : Bool := plainGet K C name && hasDictIn K C && (match findIn K (.ref C) name with
  | some a => noGet K a
  | none => false)
noncomputable def methOk (K : Frag) (C : Addr) (name : Str) (f : Addr) : Bool := plainGet K C name && (findIn K (.ref C) name == some (some (.ref f))) && isFn K (.ref f)

section
variable {X : Cx} {env : Env} {A : Around} {vm vm' : List (Str × PV)} {gl : Option (Str × List PV)} {k k₁ k₂ k₃ k' : TS} {s₀ s s' : Shared} {F₀ Fz Fz' : FMap} {own : Bool}
theorem inst_at {C : Addr} {ks : List Str} {ps : List PV} {v : Value} (b : Base X k Fz s.heap) (h : VR X.t Fz (.inst C ks ps) v) :
    ∃ a dx es vs n, v = .ref a ∧ InstAt s.heap a (instObj C dx) C (some (dictOf es n)) ∧ KeyVals ks vs es ∧ VRs X.t Fz ps vs := by
  simp only [VR] at h
  obtain ⟨a, dx, es, vs, n, rfl, h1, h2, h3, h4⟩ := h
  exact ⟨a, dx, es, vs, n, rfl, ⟨b.now _ _ h1, rfl, rfl, b.now _ _ h2⟩, h3, h4⟩
/-- what stands in an object under a name -/
theorem ev_attr {e : PySem.Expr} {name : Str} {pos : Pos} {C : Addr} {ks : List Str} {ps : List PV} {i : Nat} {p : PV} (h : EvE X env A vm gl k e (.inst C ks ps) k₁) (hi : ks.findIdx? (· == name) = some i) (hp : ps[i]? = some p)
    (hpl : plainPV p = true) (hc : attrOk (KK X.w) C name = true) (hb : attributeBase e name env (eval e env) = eval e env := by rfl) : EvE X env A vm gl k (.Attribute e name pos) p k₁ := by
  intro own s₀ F₀ s Fz f Q E q
  unfold attrOk at hc
  rw [Bool.and_eq_true, Bool.and_eq_true] at hc
  obtain ⟨⟨h1, h2⟩, h3⟩ := hc
  cases hf : findIn (KK X.w) (.ref C) name with
  | none => rw [hf] at h3; cases h3
  | some attr =>
  rw [hf] at h3
  show wpAny X.M A (do
    let o ← attributeBase e name env (eval e env)
    standAt pos.atName
    let r ← holding [o] (getAttr o name true)
    letTemporaryGo e o r
    pure r) Q E s
  rw [hb]
  refine wpAny_bind (@h _ _ _ _ _ f _ E fun v s₁ F₁ b₁ r₁ => wpAny_bind (wpAny_standAt (wpAny_bind (wpAny_holding ?_))))
  obtain ⟨a, dx, es, vs, n, rfl, I, hk, hvs⟩ := inst_at b₁.ok r₁
  obtain ⟨u, hu, hg⟩ := hk.find hi
  obtain ⟨u', hu', hpu⟩ := hvs.get hp
  rw [hu] at hu'; cases hu'
  refine get_value b₁.ok.K I (plainGet_of h1).1 (findObj_own h2 hf h3 hg) (plain_handed hpl hpu) ?_
  exact wpAny_bind (wpAny_letTemp (wpAny_pure (q u _ F₁ (b₁.trans (BS.toks b₁.ok _)) hpu)))

/-- what a method's name finds: the function and what stands ahead of the arguments -/
noncomputable def MethOf (X : Cx) (A : Around) (p : PV) (name : Str) (g : Value) : Prop := ∀ s F k v (pl : Sem Bool), Base X k F s.heap → VR X.t F p v → ∀ (Q : Value × List Value → Shared → Prop) (E : Value → Shared → Prop), Q (g, [v]) s → wpAny X.M A (getMethod v name pl) Q E s
theorem meth_inst {C : Addr} {ks : List Str} {ps : List PV} {name : Str} {f : Addr} (h : methOk (KK X.w) C name f = true) (hn : ks.findIdx? (· == name) = none) : MethOf X A (.inst C ks ps) name (.ref f) := by
  intro s F k v pl b hv Q E q
  unfold methOk at h
  rw [Bool.and_eq_true, Bool.and_eq_true] at h
  obtain ⟨⟨h1, h2⟩, h3⟩ := h
  obtain ⟨a, dx, es, vs, n, rfl, I, hk, hvs⟩ := inst_at b hv
  refine method_fn b.K I (plainGet_of h1).1 (plainGet_of h1).2 (beq_iff_eq.mp h2) (beq_iff_eq.mp h3) ?_ q
  show (lookIn name (dictOf es n)).map _ = _
  rw [lookIn_dict, hk.miss hn]; rfl
theorem meth_bytes {x : List UInt8} {name : Str} {n id : String} (hn : name = Str.ofString n) (slot : Slot "bytes" n id) (ty : typeOf (.builtin id) = pure (.type "method_descriptor")) : MethOf X A (.bytes x) name (.builtin id) := by
  intro s F k v pl b hv Q E q
  subst hn
  simp only [VR] at hv
  obtain ⟨t, rfl⟩ := hv
  exact getMethod_builtin (typeIs_bytes s _ t) FB.plainAttrs_bytes slot ty (fun _ e => nomatch e) q
theorem ev_meth {e : PySem.Expr} {name : Str} {apos pos : Pos} {es : List PySem.Expr} {p : PV} {ps : List PV} {g : Value} {r : PV} (h : EvE X env A vm gl k e p k₁) (hm : MethOf X A p name g) (hc : Callee X g) (ha : AEv X env A vm gl k₁ es ps k₂) (hs : CSpec X A g (p :: ps) k₂ r k₃)
    (hl : es.length < 30 := by decide) (hln : methodCallPos true e env apos pos = pure pos := by rfl) (hb : attributeBase e name env (eval e env) = eval e env := by rfl) : EvE X env A vm gl k (.Call (.Attribute e name apos) es [] pos) r k₃ := by
  intro own s₀ F₀ s Fz f Q E q
  show wpAny X.M A (do
    let ov ← attributeBase e name env (eval e env)
    standAt apos.atName
    methodCall e name apos pos env ov (es.length + 0) (backTo pos (starEach es env)) []) Q E s
  rw [hb]
  refine wpAny_bind (@h _ _ _ _ _ f _ E fun v s₁ F₁ b₁ r₁ => wpAny_bind (wpAny_standAt ?_))
  unfold methodCall
  have hf : methodCallForm (es.length + 0) (backTo pos (starEach es env)) [] = true := by
    unfold methodCallForm
    have h1 := ha.run (pos := pos)
    have h2 : (backTo pos (starEach es env)).all (fun x => !x.1) = true := by
      rw [List.all_eq_not_any_not]; simpa using h1.1.1
    rw [h2]
    simp; exact hl
  rw [hf]
  refine wpAny_bind (wpAny_holding ?_)
  unfold calleeOf
  rw [if_pos rfl]
  refine hm s₁ F₁ _ v _ b₁.ok r₁ _ E ?_
  dsimp only
  rw [hln]
  refine wpAny_bind (wpAny_pure ?_)
  exact wp_callWith (fps := [p]) hc ha hs (f.step b₁) (.one r₁) Q E fun u s₂ F₂ b₂ r₂ => q u s₂ F₂ (b₁.trans b₂) r₂

/- isinstance -/
theorem isi_true {C : Addr} {ks : List Str} {ps : List PV} (h : isIn (KK X.w) (.ref C) C = true) : CSpec X A (.builtin "isinstance") [.inst C ks ps, .glob (.ref C)] k (.bool true) k := by
  intro s Fz vs bb hvs Q E q
  obtain ⟨v, u, rfl, hv, hu⟩ := hvs.two_inv
  simp only [VR] at hu; subst hu
  obtain ⟨a, dx, es, vs, n, rfl, I, hk, _⟩ := inst_at bb hv
  exact isi_call bb.K (fun M => I.type) h (by intro e; cases e) (q _ s Fz (BS.refl bb) vr_bool)
noncomputable def isiNo (K : Frag) (D C : Addr) : Bool := kin_not K D C && plainGet K D "__class__" && hasDictIn K D && findIn K (.ref D) "__class__" == some (some (.builtin "object.__class__")) && specialIn K (.builtin "object.__class__") "__get__" == some (some (.builtin "getset_descriptor.__get__")) &&
  takesIn K (.builtin "object.__class__") == some true && mroIn K D (.type "object") == some true
theorem isi_false {C D : Addr} {ks : List Str} {ps : List PV} (h : isiNo (KK X.w) D C = true) : CSpec X A (.builtin "isinstance") [.inst D ks ps, .glob (.ref C)] k (.bool false) k := by
  intro s Fz vs bb hvs Q E q
  obtain ⟨v, u, rfl, hv, hu⟩ := hvs.two_inv
  simp only [VR] at hu; subst hu
  obtain ⟨a, dx, es, vs, n, rfl, I, hk, _⟩ := inst_at bb hv
  unfold isiNo at h
  simp only [Bool.and_eq_true] at h
  obtain ⟨⟨⟨⟨⟨⟨h1, h2⟩, h3⟩, h4⟩, h5⟩, h6⟩, h7⟩ := h
  exact kin_callC bb.K I h1 h2 h3 (beq_iff_eq.mp h4) (beq_iff_eq.mp h5) (beq_iff_eq.mp h6) (beq_iff_eq.mp h7) (q _ _ Fz (BS.toks bb _) vr_bool)
end

/-- a body of stores into self -/
inductive InitB (env : Env) (self : Str) : List Stmt → List (Str × Str) → Prop
  | nil : InitB env self [] []
  | cons {attr y : Str} {p1 p2 p3 pos : Pos} {rest : List Stmt} {l : List (Str × Str)} : swapsWithSole [.Attribute (.Name self p1) attr p2] (.Name y p3) pos.line env = pure false → swappedStores [.Attribute (.Name self p1) attr p2] (.Name y p3) env = pure none →
      (assignEach [.Attribute (.Name self p1) attr p2] env).map (·.2) = [assign (.Attribute (.Name self p1) attr p2) env] →
      InitB env self rest l → InitB env self (.Assign [.Attribute (.Name self p1) attr p2] (.Name y p3) pos :: rest) ((attr, y) :: l)
theorem putL_new {name : Str} {hsh : Int} {tk : Tok} {v : Value} : ∀ {ks : List Str} {vs : List Value} {es : List DictEntry}, KeyVals ks vs es → ks.findIdx? (· == name) = none →
    putL name hsh (.str name tk) v es = es ++ [⟨hsh, .str name tk, v⟩] ∧ KeyVals (ks ++ [name]) (vs ++ [v]) (es ++ [⟨hsh, .str name tk, v⟩])
  | _, _, _, .nil, _ => ⟨rfl, .cons .nil⟩
  | _, _, _, .cons (k := k) (ks := ks) (v := u) (vs := vs) (es := es) (h := hh) (tk := tk') r, h => by
    rw [List.findIdx?_cons] at h
    have e : (⟨hh, .str k tk', u⟩ : DictEntry).key.isStr name = (k == name) := rfl
    cases hb : k == name with
    | true => rw [hb] at h; simp at h
    | false =>
      rw [hb] at h
      obtain ⟨h1, h2⟩ := putL_new (name := name) (hsh := hsh) (tk := tk) (v := v) r (by simpa using h)
      refine ⟨?_, .cons h2⟩
      rw [putL, e, hb, h1]; rfl
theorem KeyVals.len {ks : List Str} {vs : List Value} {es : List DictEntry} (h : KeyVals ks vs es) : es.length = ks.length ∧ vs.length = ks.length := by
  induction h with
  | nil => exact ⟨rfl, rfl⟩
  | cons _ ih => exact ⟨congrArg (· + 1) ih.1, congrArg (· + 1) ih.2⟩
noncomputable def takers (K : Frag) (C : Addr) (l : List (Str × Str)) : Bool := l.all fun p => takerIn K C p.1 == some none
noncomputable def freshKeys (ks : List Str) : List (Str × Str) → Bool
  | [] => true
  | (a, _) :: r => (ks.findIdx? (· == a)).isNone && freshKeys (ks ++ [a]) r

section
variable {X : Cx} {A : Around} {env : Env} {self : Str} {x C dx : Addr} {m : Str → Option Value} {h₀ : Heap} {E : Value → Shared → Prop} {Q : Flow → Shared → Prop}
theorem init_run (hk : env.scope.kind = .function) (hkl : env.kindOf self = some .local) (hd1 : (self == ("__debug__" : Str)) = false) (hm : m self = some (.ref x)) (X₀ : (KK X.w).In h₀) (hxd : x ≠ dx)
    (hs : findIn (KK X.w) (.ref C) "__setattr__" = some (some (.builtin "object.__setattr__"))) (hp : plainOver (KK X.w) C = true) (hh : hasDictIn (KK X.w) C = true) :
    ∀ {body : List Stmt} {l : List (Str × Str)}, InitB env self body l → ∀ {ks : List Str} {vs : List Value} {es : List DictEntry} {n : Nat} {s : Shared} {us : List Value}, Fr h₀ env.locals s.heap m → News h₀ env.locals s.heap [(x, instObj C dx), (dx, dictOf es n)] → KeyVals ks vs es →
      takers (KK X.w) C l = true → freshKeys ks l = true → ks.length + l.length ≤ 1000 → (∀ p ∈ l, env.kindOf p.2 = some .local ∧ (p.2 == ("__debug__" : Str)) = false) → l.map (fun p => m p.2) = us.map some →
      (∀ s' es' n', (∃ h' tk, s' = { s with heap := h', toks := tk }) → Fr h₀ env.locals s'.heap m → News h₀ env.locals s'.heap [(x, instObj C dx), (dx, dictOf es' n')] → KeyVals (ks ++ l.map (·.1)) (vs ++ us) es' → Q .next s') →
      wpAny X.M A (execs body env) Q E s := by
  intro body l hb
  induction hb with
  | nil =>
    intro ks vs es n s us F N hkv _ _ _ _ hu q
    cases us with
    | cons u r => cases hu
    | nil => exact wpAny_execs_nil (q s es n ⟨_, _, rfl⟩ F N (by simpa using hkv))
  | @cons attr y p1 p2 p3 pos rest l h1 h2 h3 _ ih =>
    intro ks vs es n s us F N hkv htk hfr hlen hloc hu q
    cases us with
    | nil => cases hu
    | cons u us =>
    simp only [List.map_cons, List.cons.injEq] at hu
    obtain ⟨hu1, hu2⟩ := hu
    unfold takers at htk
    rw [List.all_cons, Bool.and_eq_true] at htk
    unfold freshKeys at hfr
    rw [Bool.and_eq_true] at hfr
    have hnone : ks.findIdx? (· == attr) = none := by simpa using hfr.1
    obtain ⟨hl1, hl2⟩ := hloc (attr, y) List.mem_cons_self
    refine wpAny_execs_cons (wpAny_Assign_stores (wpAny_Name (wpAny_loadName_local hk hl1 F.ns hu1 ?_) hl2) h1 h2)
    rw [h3]
    show wpAny X.M A (do
      let ov ← holding [u] (eval (.Name self p1) env)
      standAt p2.atName
      holding [u, ov] (setAttr ov attr u)
      release [u, ov] []) _ E s
    refine wpAny_bind (wpAny_holding (wpAny_Name (wpAny_loadName_local hk hkl F.ns hm ?_) hd1))
    refine wpAny_bind (wpAny_standAt (wpAny_bind (wpAny_holding ?_)))
    obtain ⟨e1, e2⟩ := putL_new (name := attr) (hsh := PyData.keyHash X.w.params attr) (tk := s.toks + 1) (v := u) hkv hnone
    have hgl : (getL attr es).isSome = true := by rw [hkv.miss hnone]; rfl
    refine set_dict (dx := dx) F X₀ N (InstAt.of_news (dx := dx) (sl := #[]) N (by exact List.mem_cons_self) (List.mem_cons_of_mem _ List.mem_cons_self)) rfl hs hp (beq_iff_eq.mp htk.1) hh hgl rfl (.tail hxd (.head fun p hp => nomatch hp)) ?_ fun h' F' N' => ?_
    · rw [e1, List.length_append]
      have := hkv.len.1
      simp only [List.length_cons, List.length_nil] at hlen ⊢
      omega
    · rw [e1] at N'
      refine wpAny_release (ih (s := { s with heap := h', toks := s.toks + 2 }) F' N' e2 htk.2 hfr.2 (by simp only [List.length_append, List.length_cons, List.length_nil] at hlen ⊢; omega) (fun p hp => hloc p (List.mem_cons_of_mem _ hp)) hu2 fun s' es' n' hs' F₂ N₂ hk₂ => ?_)
      obtain ⟨h'', tk, rfl⟩ := hs'
      exact q _ es' n' ⟨_, _, rfl⟩ F₂ N₂ (by simpa using hk₂)
end

noncomputable def KindsL (env : Env) : List (Str × PV) → Prop
  | [] => True
  | (n, _) :: r => env.kindOf n = some .local ∧ r.lookup n = none ∧ KindsL env r
theorem KindsL.kinds {env : Env} : ∀ {vm : List (Str × PV)}, KindsL env vm → Kinds env vm
  | [], _ => trivial
  | _ :: _, ⟨h1, h2, h3⟩ => ⟨.inl h1, h2, h3.kinds⟩
noncomputable def clsOk (K : Frag) (C fI : Addr) : Bool := makesIn K C && findIn K (.ref C) "__init__" == some (some (.ref fI)) && typeIn K (.ref fI) == some (.type "function") && findIn K (.ref C) "__setattr__" == some (some (.builtin "object.__setattr__")) && plainOver K C && hasDictIn K C

/-- a class whose __init__ stores its parameters -/
theorem cspec_make {X : Cx} {A : Around} {n : Nat} {C fI : Addr} {ob : Obj} {fd : FuncData} {body : List Stmt} {args : List PV} {k : TS} (R : Room A n) (self : Str) (vm : List (Str × PV)) (l : List (Str × Str)) (rs : List PV)
    (hc : clsOk (KK X.w) C fI = true) (hk : (KK X.w).lookup fI = some ob) (hd : ob.data = .func fd) (hbody : fd.body = .stmts body) (hcd : codeIn (KK X.w) fd.code fd.qualname = true)
    (hclo : fd.closure = []) (hgl : fd.globals = mainGlobals) (hbu : fd.builtins = builtinsNs)
    (hkinds : ∀ L, KindsL (callEnvC fd L fI) ((self, .none) :: vm))
    (hbind : ∀ F vs x, VRs X.t F args vs → ∃ bs, peek (KK X.w) ⟨X.p, X.w.params⟩ (bindArgs fd ⟨.ref x :: vs, []⟩) = some ((self, .ref x) :: bs) ∧ BVR X.t F vm bs)
    (hb : ∀ L, InitB (callEnvC fd L fI) self body l) (hl : ∀ L, ∀ p ∈ l, (callEnvC fd L fI).kindOf p.2 = some .local ∧ (p.2 == ("__debug__" : Str)) = false)
    (hvals : l.map (fun p => vm.lookup p.2) = rs.map some) (htk : takers (KK X.w) C l = true) (hfr : freshKeys [] l = true) (hlen : l.length ≤ 1000)
    (hdb : (self == ("__debug__" : Str)) = false)
    (hco : fd.scope.isCoroutine = false := by rfl) (hgen : fd.scope.isGenerator = false := by rfl) (hkd : fd.scope.kind = .function := by rfl) :
    CSpec X A (.ref C) args k (.inst C (l.map (·.1)) rs) k := by
  intro s Fz vs b hvs Q E q
  unfold clsOk at hc
  simp only [Bool.and_eq_true] at hc
  obtain ⟨⟨⟨⟨⟨c1, c2⟩, c3⟩, c4⟩, c5⟩, c6⟩ := hc
  obtain ⟨hh, g, d, t, os⟩ := s
  have hK : (KK X.w).In hh := b.K
  have hmk := makes_of (M := X.M) hK c1
  refine wpAny_call (make_core (w := X.w) hmk (looks_findIn hK (beq_iff_eq.mp c2)) (fun self => bind_fn hK self (beq_iff_eq.mp c3)) (.inl rfl) ?_)
  generalize hA : A.under (.builtin "type.__call__" ⟨.ref C :: vs, []⟩) = A'
  have hdep : A'.depth < recursionLimit := by
    rw [← hA]
    show A.depth + 1 < recursionLimit
    have := R.dp
    unfold recursionLimit; omega
  generalize hH1 : hh.push emptyDict = H1
  have z1 : H1.objs.size = hh.objs.size + 1 := by rw [← hH1, Heap.size_push]
  generalize hH2 : H1.push (instObj C hh.objs.size) = H2
  have z2 : H2.objs.size = hh.objs.size + 2 := by rw [← hH2, Heap.size_push, z1]
  have keep2 : ∀ a o, hh.get? a = some o → H2.get? a = some o := fun a o e => hH2 ▸ Heap.get?_push_of_some _ (hH1 ▸ Heap.get?_push_of_some _ e)
  have gx : H2.get? (hh.objs.size + 1) = some (instObj C hh.objs.size) := by rw [← z1, ← hH2]; exact Heap.get?_push_size _ rfl
  have gd : H2.get? hh.objs.size = some (dictOf [] 0) := hH2 ▸ Heap.get?_push_of_some _ (hH1 ▸ Heap.get?_push_size _ rfl)
  have ho : H2.get? fI = some ob := keep2 _ _ (b.old _ _ (X.inK _ _ hk))
  have hK2 : (KK X.w).In H2 := hK.keeps keep2
  obtain ⟨bs, hpk, hbs⟩ := hbind Fz vs (hh.objs.size + 1) hvs
  refine codeAny_call_function hdep ho hd hco hgen hbody (codeRec_of hK2 hcd) ?_
  refine Looks.of_peek (M := X.M) (h := H2) hK2 hpk _ _ _ _ (fun _ _ e => e) ?_
  rw [hclo]
  have hbs' : BVR X.t Fz ((self, .glob (.ref (hh.objs.size + 1))) :: vm) ((self, .ref (hh.objs.size + 1)) :: bs) := ⟨_, _, rfl, vr_glob, hbs⟩
  have hkl : Kinds (callEnvC fd H2.objs.size fI) ((self, .glob (.ref (hh.objs.size + 1))) :: vm) := by
    obtain ⟨h1, h2, h3⟩ := hkinds H2.objs.size
    exact ⟨.inl h1, h2, h3.kinds⟩
  refine wpAny_newFunctionEnv_cells hkd (fun x hx => Kinds.binds hbs' hkl x hx) fun env he s' x => ?_
  subst he
  refine ⟨(X.nolimit.keeps fun a o e => keep2 a o (b.old a o e)).keeps x.toInCall.keep, codeAny_func ?_⟩
  obtain ⟨h', tk, rfl, hk'⟩ := x.done
  have Fr0 : Fr hh (callEnvC fd H2.objs.size fI).locals h' (bindL (callEnvC fd H2.objs.size fI).kindOf ((self, .ref (hh.objs.size + 1)) :: bs) fun _ => none) :=
    ⟨x.toInCall.ns, fun a o e => hk' a o (keep2 a o e), by show hh.objs.size ≤ H2.objs.size; omega⟩
  have fresh : ∀ c, hh.objs.size ≤ c → hh.get? c = none := fun c hc => by
    cases e : hh.get? c with
    | none => rfl
    | some o' => exact absurd (Heap.lt_size e) (Nat.not_lt.mpr hc)
  have N0 : News hh (callEnvC fd H2.objs.size fI).locals h' [(hh.objs.size + 1, instObj C hh.objs.size), (hh.objs.size, dictOf [] 0)] := by
    intro p hp
    rcases List.mem_cons.mp hp with rfl | hp
    · exact ⟨hk' _ _ gx, by show hh.objs.size + 1 ≠ H2.objs.size; rw [z2]; exact Nat.ne_of_lt (Nat.lt_succ_self _), fresh _ (Nat.le_succ _)⟩
    · rcases List.mem_cons.mp hp with rfl | hp
      · exact ⟨hk' _ _ gd, by show hh.objs.size ≠ H2.objs.size; rw [z2]; exact Nat.ne_of_lt (Nat.lt_succ_of_lt (Nat.lt_succ_self _)), fresh _ (Nat.le_refl _)⟩
      · cases hp
  have self_ : (bindL (callEnvC fd H2.objs.size fI).kindOf ((self, .ref (hh.objs.size + 1)) :: bs) fun _ => none) self = some (.ref (hh.objs.size + 1)) := by
    obtain ⟨v, hv, h1 | ⟨h1, _⟩⟩ := bind_vars hbs' hkl (fun _ => none) (fun _ => none) (n := self) (p := .glob (.ref (hh.objs.size + 1))) (by simp [List.lookup_cons])
    · simp only [VR] at hv; subst hv; exact h1.2
    · rw [(hkinds H2.objs.size).1] at h1; rcases h1 with h1 | h1 <;> cases h1
  have vals : ∀ (l : List (Str × Str)) (rs : List PV), (∀ p ∈ l, (callEnvC fd H2.objs.size fI).kindOf p.2 = some .local ∧ (p.2 == ("__debug__" : Str)) = false) → l.map (fun p => vm.lookup p.2) = rs.map some → ∃ us, VRs X.t Fz rs us ∧
      l.map (fun p => (bindL (callEnvC fd H2.objs.size fI).kindOf ((self, .ref (hh.objs.size + 1)) :: bs) fun _ => none) p.2) = us.map some := by
    intro l
    induction l with
    | nil => intro rs _ h; cases rs with
      | nil => exact ⟨[], by simp only [VRs], rfl⟩
      | cons r rs => cases h
    | cons p l ih =>
      intro rs hl h
      cases rs with
      | nil => cases h
      | cons r rs =>
        simp only [List.map_cons, List.cons.injEq] at h
        obtain ⟨us, hu, hm⟩ := ih rs (fun q hq => hl q (List.mem_cons_of_mem _ hq)) h.2
        have hne : (p.2 == self) = false := by
          cases hb : p.2 == self with
          | false => rfl
          | true =>
            have := (hkinds H2.objs.size).2.1
            rw [← beq_iff_eq.mp hb, h.1] at this; cases this
        obtain ⟨v, hv, h1 | ⟨h1, _⟩⟩ := bind_vars hbs' hkl (fun _ => none) (fun _ => none) (n := p.2) (p := r) (by rw [List.lookup_cons, hne]; exact h.1)
        · exact ⟨v :: us, .cons hv hu, by rw [List.map_cons, List.map_cons, hm, h1.2]⟩
        · rw [(hl p List.mem_cons_self).1] at h1; rcases h1 with h1 | h1 <;> cases h1
  obtain ⟨us, hus, hum⟩ := vals l rs (hl H2.objs.size) hvals
  refine init_run (X := X) hkd (hkinds H2.objs.size).1 hdb self_ hK (Nat.succ_ne_self _) (beq_iff_eq.mp c4) c5 c6 (hb H2.objs.size) (s := { heap := h', gens := g, drawn := d, toks := tk, os := os }) Fr0 N0 .nil htk hfr (by simpa using hlen) (hl H2.objs.size) hum fun s' es' n' hs' F' N' hkv => ?_
  obtain ⟨h'', tk', rfl⟩ := hs'
  refine ⟨rfl, ?_⟩
  have b1 : BS X ⟨hh, g, d, t, os⟩ Fz k Fz { heap := h'', gens := g, drawn := d, toks := tk', os := os } := PS.bs ⟨⟨_, _, rfl⟩, F'.keep⟩ b
  have freshF : ∀ c, hh.objs.size ≤ c → Fz c = none := fun c hc => by
    cases e : Fz c with
    | none => rfl
    | some o' => exact absurd (b.lt e) (Nat.not_lt.mpr hc)
  have freshT : ∀ c, hh.objs.size ≤ c → c ≠ X.t := fun c hc e => by
    obtain ⟨o, ho⟩ := b.tis
    exact absurd (Heap.lt_size ho) (Nat.not_lt.mpr (e ▸ hc))
  have b2 := b1.freeze (N' (hh.objs.size, dictOf es' n') (List.mem_cons_of_mem _ List.mem_cons_self)).1 (fresh _ (Nat.le_refl _)) (freshF _ (Nat.le_refl _)) (freshT _ (Nat.le_refl _))
  have hx0 : (FMap.put Fz hh.objs.size (dictOf es' n')) (hh.objs.size + 1) = none := by
    unfold FMap.put; rw [if_neg (Nat.succ_ne_self _)]; exact freshF _ (Nat.le_succ _)
  have b3 := b2.freeze (N' (hh.objs.size + 1, instObj C hh.objs.size) List.mem_cons_self).1 (fresh _ (Nat.le_succ _)) hx0 (freshT _ (Nat.le_succ _))
  refine q _ _ _ b3 ?_
  simp only [VR]
  refine ⟨hh.objs.size + 1, hh.objs.size, es', us, n', rfl, FMap.put_self, ?_, by simpa using hkv, hus.mono b3.ext⟩
  exact FMap.put_ext hx0 _ _ FMap.put_self
section
variable {X : Cx} {env : Env} {A : Around} {vm vm' : List (Str × PV)} {gl : Option (Str × List PV)} {k k₁ k₂ k₃ k' : TS} {s₀ s s' : Shared} {F₀ Fz Fz' : FMap} {own : Bool}

/- names by place -/
section
variable {x : Str} {p : PV} {r : List (Str × PV)} {a b c d e f g h i : Str × PV}
theorem lkc (q : (x == a.1) = false) (w : r.lookup x = some p) : (a :: r).lookup x = some p := by rw [List.lookup_cons, q]; exact w
theorem lk0 : ((x, p) :: r).lookup x = some p := by simp
theorem lk1 (q1 : (x == a.1) = false := by kernel_rfl) : (a :: (x, p) :: r).lookup x = some p := lkc q1 lk0
theorem lk2 (q1 : (x == a.1) = false := by kernel_rfl) (q2 : (x == b.1) = false := by kernel_rfl) : (a :: b :: (x, p) :: r).lookup x = some p := lkc q1 (lkc q2 lk0)
theorem lk3 (q1 : (x == a.1) = false := by kernel_rfl) (q2 : (x == b.1) = false := by kernel_rfl) (q3 : (x == c.1) = false := by kernel_rfl) : (a :: b :: c :: (x, p) :: r).lookup x = some p := lkc q1 (lkc q2 (lkc q3 lk0))
theorem lk4 (q1 : (x == a.1) = false := by kernel_rfl) (q2 : (x == b.1) = false := by kernel_rfl) (q3 : (x == c.1) = false := by kernel_rfl) (q4 : (x == d.1) = false := by kernel_rfl) : (a :: b :: c :: d :: (x, p) :: r).lookup x = some p := lkc q1 (lkc q2 (lkc q3 (lkc q4 lk0)))
theorem lk5 (q1 : (x == a.1) = false := by kernel_rfl) (q2 : (x == b.1) = false := by kernel_rfl) (q3 : (x == c.1) = false := by kernel_rfl) (q4 : (x == d.1) = false := by kernel_rfl) (q5 : (x == e.1) = false := by kernel_rfl) : (a :: b :: c :: d :: e :: (x, p) :: r).lookup x = some p := lkc q1 (lkc q2 (lkc q3 (lkc q4 (lkc q5 lk0))))
theorem lk6 (q1 : (x == a.1) = false := by kernel_rfl) (q2 : (x == b.1) = false := by kernel_rfl) (q3 : (x == c.1) = false := by kernel_rfl) (q4 : (x == d.1) = false := by kernel_rfl) (q5 : (x == e.1) = false := by kernel_rfl) (q6 : (x == f.1) = false := by kernel_rfl) : (a :: b :: c :: d :: e :: f :: (x, p) :: r).lookup x = some p := lkc q1 (lkc q2 (lkc q3 (lkc q4 (lkc q5 (lkc q6 lk0)))))
theorem lk7 (q1 : (x == a.1) = false := by kernel_rfl) (q2 : (x == b.1) = false := by kernel_rfl) (q3 : (x == c.1) = false := by kernel_rfl) (q4 : (x == d.1) = false := by kernel_rfl) (q5 : (x == e.1) = false := by kernel_rfl) (q6 : (x == f.1) = false := by kernel_rfl) (q7 : (x == g.1) = false := by kernel_rfl) : (a :: b :: c :: d :: e :: f :: g :: (x, p) :: r).lookup x = some p := lkc q1 (lkc q2 (lkc q3 (lkc q4 (lkc q5 (lkc q6 (lkc q7 lk0))))))
end
theorem ev_nm {x : Str} {pos : Pos} {p : PV} (h : vm.lookup x = some p := by first | exact lk0 | exact lk1 | exact lk2 | exact lk3 | exact lk4 | exact lk5 | exact lk6 | exact lk7)
    (hd : (x == ("__debug__" : Str)) = false := by decide) (hc : (x == ("__classdict__" : Str)) = false := by decide) : EvE X env A vm gl k (.Name x pos) p k := ev_name h hd hc
theorem EvE.cast {e : PySem.Expr} {p q : PV} (h : EvE X env A vm gl k e p k') (hp : p = q) : EvE X env A vm gl k e q k' := hp ▸ h
theorem EvB.cast {e : PySem.Expr} {p q : Bool} (h : EvB X env A vm gl k e p k') (hp : p = q) : EvB X env A vm gl k e q k' := hp ▸ h
theorem Ex.cast {t : Sem Flow} {o o' : Out} (h : Ex X env A vm gl k t o) (e : o = o') : Ex X env A vm gl k t o' := e ▸ h
/-- a def of the program, a class or a builtin by name -/
theorem ev_gf {x : Str} {pos : Pos} {v : Value} (hg : nsFind (gEs X.w.params) x = some v) (hx : env.kindOf x = some .globalImplicit := by kernel_rfl) (hd : (x == ("__debug__" : Str)) = false := by decide) : EvE X env A vm gl k (.Name x pos) (.glob v) k :=
  ev_glob hx (X.mg_eq hg) (by simp only [VR]) hd
theorem ev_bi {x : Str} {pos : Pos} {v : Value} (hg : nsFind (gEs X.w.params) x = none) (hn : x ≠ "__name__") (hb : bootBuiltins x = some v) (hx : env.kindOf x = some .globalImplicit := by kernel_rfl) (hd : (x == ("__debug__" : Str)) = false := by decide) : EvE X env A vm gl k (.Name x pos) (.glob v) k :=
  ev_builtin hx (X.mg_eq hg) hn hb hd

/- lists -/
theorem cmp_eqnil {l : List PV} (R : Room A 0) : Bin X A (compareOp .Eq) (.list l) (.list []) (.bool l.isEmpty) := by
  intro s Fz k v u b hv hu Q E q
  simp only [VR] at hv hu
  obtain ⟨a, vs, rfl, ⟨o, ho, hc, n, hd⟩, hvs⟩ := hv
  obtain ⟨a', vs', rfl, ⟨o', ho', hc', n', hd'⟩, hvs'⟩ := hu
  simp only [VRs] at hvs'; subst hvs'
  have hu' : A.units < cLine := by have := R.un; unfold cLine; omega
  cases l with
  | nil =>
    simp only [VRs] at hvs; subst hvs
    exact SeqAt.eq_listAt (e := fun _ => true) ⟨o, b.now _ _ ho, hc, n, hd⟩ ⟨o', b.now _ _ ho', hc', n', hd'⟩ rfl hu' (fun j h1 _ => absurd h1 (by simp)) (q _ s Fz (BS.refl b) vr_bool)
  | cons p l =>
    have := hvs.length
    exact SeqAt.eq_list_lengthsAt ⟨o, b.now _ _ ho, hc, n, hd⟩ ⟨o', b.now _ _ ho', hc', n', hd'⟩ (by simp [this]) hu' (q _ s Fz (BS.refl b) vr_bool)
theorem cmp_nenil {l : List PV} (R : Room A 0) : Bin X A (compareOp .NotEq) (.list l) (.list []) (.bool (!l.isEmpty)) := by
  intro s Fz k v u b hv hu Q E q
  simp only [VR] at hv hu
  obtain ⟨a, vs, rfl, ⟨o, ho, hc, n, hd⟩, hvs⟩ := hv
  obtain ⟨a', vs', rfl, ⟨o', ho', hc', n', hd'⟩, hvs'⟩ := hu
  simp only [VRs] at hvs'; subst hvs'
  have hu' : A.units < cLine := by have := R.un; unfold cLine; omega
  cases l with
  | nil =>
    simp only [VRs] at hvs; subst hvs
    exact SeqAt.RcNeAt.lists (e := fun _ => true) ⟨o, b.now _ _ ho, hc, n, hd⟩ ⟨o', b.now _ _ ho', hc', n', hd'⟩ rfl hu' (fun j h1 _ => absurd h1 (by simp)) _ _ _ _ (q _ s Fz (BS.refl b) vr_bool)
  | cons p l =>
    have := hvs.length
    exact SeqAt.RcNeAt.lists_lengths ⟨o, b.now _ _ ho, hc, n, hd⟩ ⟨o', b.now _ _ ho', hc', n', hd'⟩ (by simp [this]) hu' _ _ _ _ (q _ s Fz (BS.refl b) vr_bool)
theorem tr_list {l : List PV} (hl : l.length ≤ 16777216) : Tr X A (.list l) (!l.isEmpty) := by
  intro s Fz k v b hv Q E q
  simp only [VR] at hv
  obtain ⟨a, vs, rfl, ⟨o, ho, hc, n, hd⟩, hvs⟩ := hv
  have hn := hvs.length
  refine wpAny_truthy_list ⟨o, b.now _ _ ho, hc, n, hd⟩ (by simp; omega) (q _ _ Fz (BS.toks b _) ?_)
  cases l <;> cases vs <;> simp_all
theorem bin_addl {l l' : List PV} (h : l.length + l'.length ≤ 16777216) : Bin X A (binaryOp .Add) (.list l) (.list l') (.list (l ++ l')) := by
  intro s Fz k v u b hv hu Q E q
  simp only [VR] at hv hu
  obtain ⟨a, vs, rfl, ⟨⟨cls, dd, data, sl⟩, ho, hc, n, hd⟩, hvs⟩ := hv
  obtain ⟨a', vs', rfl, ⟨⟨cls2, dd2, data2, sl2⟩, ho', hc', n', hd'⟩, hvs'⟩ := hu
  simp only at hc hd hc' hd'
  subst hc hd hc' hd'
  have h1 := hvs.length
  have h2 := hvs'.length
  refine concat_meets ⟨_, b.now _ _ ho, rfl⟩ ⟨_, b.now _ _ ho', rfl⟩ noFill_list_add seq_list_add PySem.F.slot_list_add PySem.F.entry_list_add (PySem.F.args_list_add_2 _ _) (list_addW a a' vs.toArray vs'.toArray n n' dd dd2 sl sl2 (by simp [sizeLine]; omega)) ⟨b.now _ _ ho, b.now _ _ ho', ?_⟩
  have b₂ := BS.push (tk := s.toks) b (o := { cls := .type "list", data := .seq (vs.toArray ++ vs'.toArray) }) rfl
  refine q _ _ _ b₂ ?_
  simp only [VR]
  exact ⟨_, vs ++ vs', rfl, ⟨_, FMap.put_self, rfl, 0, by simp⟩, (hvs.mono b₂.ext).append (hvs'.mono b₂.ext)⟩

/- slices -/
theorem clip_some {n : Nat} {i : Int} (h : 0 ≤ i) : clipAt n i = min i.toNat n := by
  have := clipAt_nat n i.toNat
  rwa [Int.toNat_of_nonneg h] at this
noncomputable def cut {α : Type} (l : List α) (lo hi : Option Int) : List α := (l.drop (lo.elim 0 (clipAt l.length))).take (hi.elim l.length (clipAt l.length) - lo.elim 0 (clipAt l.length))
/-- a part of a slice -/
inductive PEv (X : Cx) (env : Env) (A : Around) (vm : List (Str × PV)) (gl : Option (Str × List PV)) (k : TS) : Option PySem.Expr → Option Int → Prop
  | none : PEv X env A vm gl k none none
  | some {e : PySem.Expr} {i : Int} : EvE X env A vm gl k e (.int i) k → PEv X env A vm gl k (some e) (some i)
theorem PEv.run {l : Option PySem.Expr} {i : Option Int} (h : PEv X env A vm gl k l i) : Ev X env A vm gl k (evalPart l env) k fun _ v => IsPart v i := by
  intro own s₀ F₀ s Fz f Q E q
  cases h with
  | none => exact wpAny_pure (q _ s Fz (BS.refl f.bs.ok) .none)
  | some h =>
    refine @h _ _ _ _ _ f Q E fun v s₁ F₁ b₁ r₁ => ?_
    simp only [VR] at r₁
    obtain ⟨t, rfl⟩ := r₁
    exact q _ s₁ F₁ b₁ (.int _ _)
/-- what a slice of p gives -/
noncomputable def Cuts (X : Cx) (A : Around) (p : PV) (lo hi : Option Int) (r : PV) : Prop := ∀ s Fz k v l u, Base X k Fz s.heap → VR X.t Fz p v → IsPart l lo → IsPart u hi → ∀ (Q : Value → Shared → Prop) (E : Value → Shared → Prop),
  (∀ v' s' F', BS X s Fz k F' s' → VR X.t F' r v' → Q v' s') → ∀ a, s.heap.IsSliceOf a l u .none → wpAny X.M A (getItem v (.ref a)) Q E s
theorem cut_bytes {b : List UInt8} {lo hi : Option Int} (hz : b.length ≤ 16777216) : Cuts X A (.bytes b) lo hi (.bytes (cut b lo hi)) := by
  intro s Fz k v l u bb hv hl hu Q E q a hs
  simp only [VR] at hv
  obtain ⟨t, rfl⟩ := hv
  refine getItem_meets (typeIs_bytes _ _ _) (by decide) FB.slot_bytes_getitem FB.entry_bytes_getitem (FB.args_bytes_getitem_2 _ _) (KBc.meets_slice2 b.toArray t _ hl hu) ⟨hs, Nat.le_trans (KBc.size_picked_le _ lo hi) (by simpa [sizeLine] using hz), fun t' k' => q _ _ Fz (BS.toks bb _) ?_⟩
  have e : KBy.picked b.toArray lo hi = (cut b lo hi).toArray := by rw [KBc.picked_eq]; simp [cut]
  rw [e]
  exact vr_bytes
theorem VRs.drop {t : Addr} {F : FMap} : ∀ {l : List PV} {vs : List Value}, VRs t F l vs → ∀ n : Nat, VRs t F (l.drop n) (vs.drop n)
  | _, _, h, 0 => h
  | [], _, h, n + 1 => by simp only [VRs] at h; subst h; simp only [List.drop_nil, VRs]
  | p :: l, _, h, n + 1 => by simp only [VRs] at h; obtain ⟨v, r, rfl, _, h3⟩ := h; exact VRs.drop h3 n
theorem VRs.take {t : Addr} {F : FMap} : ∀ {l : List PV} {vs : List Value}, VRs t F l vs → ∀ n : Nat, VRs t F (l.take n) (vs.take n)
  | _, _, _, 0 => by simp only [List.take_zero, VRs]
  | [], _, h, n + 1 => by simp only [VRs] at h; subst h; simp only [List.take_nil, VRs]
  | p :: l, _, h, n + 1 => by
    simp only [VRs] at h
    obtain ⟨v, r, rfl, hv, h3⟩ := h
    exact .cons hv (VRs.take h3 n)
theorem cut_list {l : List PV} {lo hi : Option Int} (hz : l.length ≤ 16777216) : Cuts X A (.list l) lo hi (.list (cut l lo hi)) := by
  intro s Fz k v x u bb hv hl hu Q E q a hs
  simp only [VR] at hv
  obtain ⟨c, vs, rfl, ⟨o, ho, hc, n, hd⟩, hvs⟩ := hv
  have hn := hvs.length
  refine wpAny_getItem_list_slice ⟨o, bb.now _ _ ho, hc, n, hd⟩ hs hl hu .none (by simp) ?_ (by simp [sizeLine]; omega)
  have b₂ := BS.push (tk := s.toks) bb (o := { cls := .type "list", data := .seq (slicePick vs.toArray lo hi none) }) rfl
  refine q _ _ _ b₂ ?_
  simp only [VR]
  refine ⟨_, (slicePick vs.toArray lo hi none).toList, rfl, ⟨_, FMap.put_self, rfl, 0, by simp⟩, ?_⟩
  have e : (slicePick vs.toArray lo hi none).toList = cut vs lo hi := by rw [slicePick_plain]; simp [cut]
  rw [e]
  unfold cut
  rw [hn]
  exact ((hvs.drop _).take _).mono b₂.ext
theorem IsSliceOf.keeps {h h' : Heap} {a l u st} (x : h.IsSliceOf a l u st) (hk : ∀ o, h.get? a = some o → h'.get? a = some o) : h'.IsSliceOf a l u st := let ⟨o, ho, r⟩ := x; ⟨o, hk o ho, r⟩
theorem ev_slice {e : PySem.Expr} {l u : Option PySem.Expr} {ps pos : Pos} {p r : PV} {lo hi : Option Int} {T : String} (h : EvE X env A vm gl k e p k₁) (hl : PEv X env A vm gl k₁ l lo) (hu : PEv X env A vm gl k₁ u hi) (g : GetsBy p T) (hc : Cuts X A p lo hi r)
    (hs : ∀ o u', ∃ ops, subscripted (.Slice l u none ps) false o u' = operate ops (getItem o u') := by exact fun _ _ => ⟨_, rfl⟩) : EvE X env A vm gl k (.Subscript e (.Slice l u none ps) pos) r k₁ := by
  intro own s₀ F₀ s Fz f Q E qq
  rw [eval_Subscript]
  refine wpAny_bind (@h _ _ _ _ _ f _ E fun v s₁ F₁ b₁ r₁ => wpAny_bind (wpAny_holding ?_))
  have f₁ := f.step b₁
  refine wpAny_Slice (hl.run _ _ _ _ f₁ _ E fun a s₂ F₂ b₂ r₂ => hu.run _ _ _ _ (f₁.step b₂) _ E fun b s₃ F₃ b₃ r₃ => ?_)
  rw [evalPart_none]
  refine wpAny_pure ?_
  have b₄ := BS.push (tk := s₃.toks) b₃.ok (o := { cls := .type "slice", data := .fields #[a, b, .none] }) rfl
  refine wpAny_bind (wpAny_standAt ?_)
  have hv4 : VR X.t (F₃.put s₃.heap.objs.size { cls := .type "slice", data := .fields #[a, b, .none] }) p v := ((r₁.mono b₂.ext).mono b₃.ext).mono b₄.ext
  have hT := g.is b₄.ok hv4
  obtain ⟨id, hid⟩ := g.slot
  refine wpAny_bind ?_
  rw [getitemInPython_of_ne hT.not_modules]
  refine wpAny_bind (wpAny_specialOf hT hid ?_)
  obtain ⟨ops, hs⟩ := hs v (.ref s₃.heap.objs.size)
  have fin : wpAny X.M A (subscripted (.Slice l u none ps) false v (.ref s₃.heap.objs.size)) (fun r s₃ => wpAny X.M A (letTemporaryGo e v r >>= fun _ => pure r) Q E s₃) E { s₃ with heap := s₃.heap.push { cls := .type "slice", data := .fields #[a, b, .none] } } := by
    rw [hs]
    refine wpAny_operating ?_
    refine hc _ _ _ v a b b₄.ok hv4 r₂ r₃ _ _ (fun v' s' F' b₅ r₅ => ?_) _ (Heap.IsSliceOf.new _ _ _ _)
    exact wpAny_bind (wpAny_letTemp (wpAny_pure (qq v' s' F' ((((b₁.trans b₂).trans b₃).trans b₄).trans b₅) r₅)))
  first
    | exact wpAny_pure (wpAny_bind fin)
    | exact wpAny_bind (wpAny_pure (wpAny_bind fin))
    | exact wpAny_bind fin
end
section
variable {X : Cx} {env : Env} {A : Around} {vm vm' : List (Str × PV)} {gl : Option (Str × List PV)} {k k₁ k₂ k₃ k' : TS} {s₀ s s' : Shared} {F₀ Fz Fz' : FMap} {own : Bool}

noncomputable abbrev sk (X : Cx) : KeyKind X.p X.w Str := strKind X.p X.w
theorem isS {x : Str} {tk : Tok} : (sk X).is x (.str x tk) = true := by show (x == x) = true; exact beq_self_eq_true x
theorem KeyVals.pairs {ks : List Str} {vs : List Value} {es : List DictEntry} (h : KeyVals ks vs es) : Pairs (sk X) es (ks.zip vs) := by
  induction h with
  | nil => exact .nil
  | cons _ ih => exact .cons (isS) rfl ih
theorem KeyVals.lens {ks : List Str} {vs : List Value} {es : List DictEntry} (h : KeyVals ks vs es) : ks.length = vs.length := by
  induction h with
  | nil => rfl
  | cons _ ih => simp [ih]
theorem KeyVals.of_pairs : ∀ {ks : List Str} {vs : List Value} {es : List DictEntry}, ks.length = vs.length → Pairs (sk X) es (ks.zip vs) → KeyVals ks vs es
  | [], [], es, _, h => by cases h; exact .nil
  | k :: ks, v :: vs, es, e, h => by
    rw [List.zip_cons_cons] at h
    cases h with
    | @cons en _ es' _ h1 h2 h3 =>
      obtain ⟨hh, ky, vl⟩ := en
      obtain ⟨t, rfl⟩ := Value.isStrOf_shape h1
      cases h2
      exact .cons (KeyVals.of_pairs (by simpa using e) h3)
theorem keys_hashed {es : Array DictEntry} (h : HashedBy X.w.params es.toList) : KeysOf (sk X) es := fun e he => by
  obtain ⟨x, tk, h1, h2⟩ := h e (Array.mem_toList_iff.mpr he)
  exact ⟨x, by rw [h1]; exact isS, h2⟩
theorem hashed_keys {es : Array DictEntry} (h : KeysOf (sk X) es) : HashedBy X.w.params es.toList := fun e he => by
  obtain ⟨x, h1, h2⟩ := h e (Array.mem_toList_iff.mp he)
  obtain ⟨t, ht⟩ := Value.isStrOf_shape h1
  exact ⟨x, t, ht, h2⟩
theorem dict_at {ks : List Str} {ps : List PV} {v : Value} (b : Base X k Fz s.heap) (h : VR X.t Fz (.dict X.w.params ks ps) v) (hn : ks.Nodup) :
    ∃ a vs ep, v = .ref a ∧ (a == sysModules) = false ∧ s.heap.DictAt (sk X) a (ks.zip vs) ep ∧ VRs X.t Fz ps vs ∧ ks.length = vs.length := by
  simp only [VR] at h
  obtain ⟨a, o, es, vs, n, rfl, h2, hS, h3, h4, h5, h6, h7⟩ := h
  refine ⟨a, vs, n, rfl, hS, ⟨o, es, b.now _ _ h2, h3, h4, keys_hashed h6, h5.pairs, ?_⟩, h7, h5.lens⟩
  rw [List.map_fst_zip (by rw [h5.lens]; exact Nat.le_refl _)]; exact hn
/-- a new dict, frozen -/
theorem BS.newDict {s₁ : Shared} (b : BS X s₀ F₀ k Fz s₁) {D : Addr} {ks : List Str} {ps : List PV} {vs : List Value} (hd : s₁.heap.DictOf (sk X) D (ks.zip vs)) (hl : ks.length = vs.length) (hv : VRs X.t Fz ps vs) (h0 : s₀.heap.get? D = none) (hF : Fz D = none) (ht : D ≠ X.t) (hS : (D == sysModules) = false) :
    ∃ F', BS X s₀ F₀ k F' s₁ ∧ VR X.t F' (.dict X.w.params ks ps) (.ref D) := by
  obtain ⟨o, es, ep, ho, he, hdt, hk, hp, hn⟩ := hd
  refine ⟨_, b.freeze ho h0 hF ht, ?_⟩
  simp only [VR]
  exact ⟨D, o, es, vs, ep, rfl, FMap.put_self, hS, he, hdt, .of_pairs hl hp, hashed_keys hk, hv.mono (FMap.put_ext hF)⟩
theorem Base.free (b : Base X k Fz s.heap) {a : Addr} (h : s.heap.objs.size ≤ a) : s.heap.get? a = none ∧ Fz a = none ∧ a ≠ X.t := by
  refine ⟨?_, ?_, ?_⟩
  · cases e : s.heap.get? a with
    | none => rfl
    | some o => exact absurd (Heap.lt_size e) (Nat.not_lt.mpr h)
  · cases e : Fz a with
    | none => rfl
    | some o => exact absurd (b.lt e) (Nat.not_lt.mpr h)
  · intro e
    obtain ⟨o, ho⟩ := b.tis
    exact absurd (Heap.lt_size ho) (Nat.not_lt.mpr (e ▸ h))
theorem Base.notSys (b : Base X k Fz s.heap) : (s.heap.objs.size == sysModules) = false := by
  have h : X.H.get? 3 = some (o_674 X.w.params) := X.inK _ _ (by kernel_rfl)
  have := Heap.lt_size (b.old _ _ h)
  rw [beq_eq_false_iff_ne]
  unfold sysModules
  intro e
  rw [e] at this
  exact absurd this (by decide)

theorem ev_dict0 {pos : Pos} : EvE X env A vm gl k (.Dict [] [] pos) (.dict X.w.params [] []) k := by
  intro own s₀ F₀ s Fz f Q E q
  refine wpAny_Dict_empty ?_
  have b₂ := BS.push (tk := s.toks) f.bs.ok (o := { cls := .type "dict", data := .dict #[] }) rfl
  refine q _ _ _ b₂ ?_
  simp only [VR]
  exact ⟨_, _, #[], [], 0, rfl, FMap.put_self, f.bs.ok.notSys, ⟨rfl, rfl, rfl⟩, rfl, .nil, fun e he => (by simp at he), rfl⟩
theorem ev_dict1 {ke e : PySem.Expr} {pos : Pos} {x : Str} {p : PV} (hk : EvE X env A vm gl k ke (.str x) k) (h : EvE X env A vm gl k e p k) : EvE X env A vm gl k (.Dict [some ke] [e] pos) (.dict X.w.params [x] [p]) k := by
  intro own s₀ F₀ s Fz f Q E q
  refine wpAny_Dict_pairs (knd := sk X) (pairs := [(eval ke env, do let x ← eval e env; standAt pos; pure x)]) rfl (by simp) (by simp) (evalPairs_cons ?_)
  have fr := f.bs.ok.free (Nat.le_refl s.heap.objs.size)
  have ps : BS X s Fz k Fz { s with heap := s.heap.push { cls := .type "dict", data := .dict #[] } } := PS.bs ⟨⟨_, _, rfl⟩, fun b o e => Heap.get?_push_of_some _ e⟩ f.bs.ok
  have f₁ := f.step ps
  refine @hk _ _ _ _ _ f₁ _ E fun kv s₁ F₁ b₁ r₁ => wpAny_bind (@h _ _ _ _ _ (f₁.step b₁) _ E fun v s₂ F₂ b₂ r₂ => wpAny_bind (wpAny_standAt (wpAny_pure (evalPairs_nil ?_))))
  simp only [VR] at r₁
  obtain ⟨tk, rfl⟩ := r₁
  have b12 := b₁.trans b₂
  have hD0 : (s.heap.push { cls := .type "dict", data := .dict #[] }).get? s.heap.objs.size = some { cls := .type "dict", data := .dict #[] } := Heap.get?_push_size _ rfl
  have hD2 := b12.keep _ _ fr.2.2 hD0
  refine ⟨[(x, v)], ⟨isS, rfl, trivial⟩, ⟨_, #[], 0, hD2, ⟨rfl, rfl, rfl⟩, rfl, fun e he => (by simp at he), .nil, .nil⟩, fun h' hd hs => ?_⟩
  have hF2 : F₂ s.heap.objs.size = none := b12.none_stays fr.2.1 hD0
  have bb : BS X s Fz k F₂ { s₂ with heap := h', toks := s₂.toks + 1 } := (ps.trans b12).but hs.extBut fr.1 hF2 fr.2.2
  obtain ⟨F', b', hv⟩ := bb.newDict (ks := [x]) (vs := [v]) (by simpa [merged, stored] using hd) rfl (.one r₂) fr.1 hF2 fr.2.2 f.bs.ok.notSys
  exact q _ _ _ b' hv
theorem dict_of {ks : List Str} {ps : List PV} (hn : ks.Nodup) (hz : ps.length ≤ 1000) : CSpec X A (.type "dict") [.dict X.w.params ks ps] k (.dict X.w.params ks ps) k := by
  intro s Fz vs bb hvs Q E q
  obtain ⟨v, rfl, hv⟩ := hvs.one_inv
  obtain ⟨a, us, ep, rfl, hS, hd, hus, hl⟩ := dict_at bb hv hn
  have hle := hus.length
  have fr := bb.free (Nat.le_refl s.heap.objs.size)
  refine kt_call_dict (knd := sk X) hS hd.dictOf (by simp [sizeLine]; omega) fun h' hd' hs => ?_
  have ps : BS X s Fz k Fz { s with heap := s.heap.push { cls := .type "dict", data := .dict #[] } } := PS.bs ⟨⟨_, _, rfl⟩, fun b o e => Heap.get?_push_of_some _ e⟩ bb
  have b2 : BS X s Fz k Fz { s with heap := h' } := ps.but (tk := s.toks) hs.extBut fr.1 fr.2.1 fr.2.2
  obtain ⟨F', b', hv'⟩ := b2.newDict hd' hl hus fr.1 fr.2.1 fr.2.2 bb.notSys
  exact q _ _ _ b' hv'
theorem item_dict {ks : List Str} {ps : List PV} {x : Str} {i : Nat} {p : PV} (hn : ks.Nodup) (hx : ks[i]? = some x) (hp : ps[i]? = some p) : Bin X A getItem (.dict X.w.params ks ps) (.str x) p := by
  intro s Fz k v u b hv hu Q E q
  obtain ⟨a, us, ep, rfl, hS, hd, hus, hl⟩ := dict_at b hv hn
  simp only [VR] at hu
  obtain ⟨t, rfl⟩ := hu
  obtain ⟨w, hw, hr⟩ := hus.get hp
  have hz : (ks.zip us)[i]? = some (x, w) := by rw [List.getElem?_zip_eq_some]; exact ⟨hx, hw⟩
  have hv' : valueAt (ks.zip us) x = some w := valueAt_of_get (by rw [List.map_fst_zip (by omega)]; exact hn) hz
  exact wpAny_getItem_of (knd := sk X) isS hd.dictOf.mapOf hv' (q w _ Fz (BS.toks b _) hr)
theorem strs_vr : ∀ {ks : List Str} {vs : List Value}, ks.length = vs.length → (∀ (i : Nat) (x : Str), ks[i]? = some x → ∃ v, vs[i]? = some v ∧ VR X.t Fz (.str x) v) → VRs X.t Fz (ks.map .str) vs
  | [], [], _, _ => by simp only [List.map_nil, VRs]
  | x :: ks, v :: vs, hl, h => by
    obtain ⟨u, hu, hr⟩ := h 0 x rfl
    cases hu
    exact .cons hr (strs_vr (by simpa using hl) fun i y hy => by simpa using h (i + 1) y (by simpa using hy))
theorem sort_short {a : Addr} {vs : List Value} {n : Nat} {P : Fin → Shared → Prop} {E : Value → Shared → Prop} (ho : s.heap.get? a = some (seqObj "list" vs.toArray n)) (h2 : vs.length < 2)
    (h : P (.done (.ret .none)) { s with heap := sortedHeap s.heap a vs vs.toArray }) : wpAny X.M A (Builtin.«list.sort» ⟨[.ref a], []⟩) P E s := by
  rw [list_sort_plain]
  have ha : a < s.heap.objs.size := Heap.lt_size ho
  have hl1 : vs.toArray.size ≤ sizeLine := by simp [sizeLine]; omega
  refine wpAny_bind (listItems_at ho rfl ?_)
  refine wpAny_bind (listUpdate_at ho rfl ?_ hl1 (by simp))
  obtain ⟨e1, ho1⟩ : ∃ e1, (s.heap.update a (Obj.mapSeq fun _ => #[])).get? a = some (seqObj "list" #[] e1) := ⟨_, get?_update_seq ho (fun _ => #[])⟩
  refine wpAny_bind (seqEpoch_at ho1 rfl ?_)
  refine wpAny_bind (wpAny_newTuple ?_ (by simpa [sizeLine] using (by omega : vs.length ≤ 16777216)))
  refine wpAny_bind (wpAny_newList ?_)
  refine wpAny_holding ?_
  have ho6 : (((s.heap.update a (Obj.mapSeq fun _ => #[])).push (seqObj "tuple" vs.toArray 0)).push (seqObj "list" #[] 0)).get? a = some (seqObj "list" #[] e1) := by
    rw [Heap.get?_push_ne _ _ _ (by rw [size_push', Heap.size_update]; exact Nat.ne_of_lt (Nat.lt_succ_of_lt ha)), Heap.get?_push_ne _ _ _ (by rw [Heap.size_update]; exact Nat.ne_of_lt ha)]
    exact ho1
  show wpAny X.M A _ P E { s with heap := ((s.heap.update a (Obj.mapSeq fun _ => #[])).push (seqObj "tuple" vs.toArray 0)).push (seqObj "list" #[] 0) }
  dsimp only
  have hsz : vs.toArray.size < 2 := by simpa using h2
  rw [if_pos hsz, if_pos hsz]
  refine wpAny_bind (wpAny_pure ?_)
  rw [StateT.run_pure]
  refine wpAny_bind (wpAny_pure ?_)
  dsimp only
  have e : (arrOf (SortSt.mk' general' (vs.toArray.zip vs.toArray) #[] 7 none)).map (·.2) = vs.toArray := by
    show (vs.toArray.zip vs.toArray).map (·.2) = vs.toArray
    rw [← Array.toList_inj]
    simp only [Array.toList_map, Array.toList_zip]
    exact List.map_snd_zip (Nat.le_refl _)
  rw [e]
  refine wpAny_bind (seqEpoch_at ho6 rfl ?_)
  refine wpAny_bind (listUpdate_at ho6 rfl ?_ (by simp) (by simp [sizeLine]; omega))
  simp only [bne_self_eq_false, Bool.false_eq_true, if_false]
  exact wpAny_pure h
theorem sortedHeap_at {h : Heap} {a : Addr} {vs : List Value} {out : Array Value} {n : Nat} (ho : h.get? a = some (seqObj "list" vs.toArray n)) : ∃ e, (sortedHeap h a vs out).get? a = some (seqObj "list" out e) := by
  have ha : a < h.objs.size := Heap.lt_size ho
  have ho1 := get?_update_seq ho (fun _ => #[])
  have ho6 : (((h.update a (Obj.mapSeq fun _ => #[])).push (seqObj "tuple" vs.toArray 0)).push (seqObj "list" #[] 0)).get? a = some (seqObj "list" #[] (if (#[] : Array Value).size == vs.toArray.size then n else n + 1)) := by
    rw [Heap.get?_push_ne _ _ _ (by rw [size_push', Heap.size_update]; exact Nat.ne_of_lt (Nat.lt_succ_of_lt ha)), Heap.get?_push_ne _ _ _ (by rw [Heap.size_update]; exact Nat.ne_of_lt ha)]
    exact ho1
  exact ⟨_, get?_update_seq ho6 (fun _ => out)⟩
theorem sortedHeap_but {h : Heap} {a : Addr} {vs : List Value} {out : Array Value} : Heap.ExtBut a h (sortedHeap h a vs out) := by
  intro b o hb e
  unfold sortedHeap
  have e1 : (h.update a (Obj.mapSeq fun _ => #[])).get? b = some o := by rw [Heap.get?_update_ne _ _ _ _ hb]; exact e
  rw [Heap.get?_update_ne _ _ _ _ hb]
  exact Heap.get?_push_of_some _ (Heap.get?_push_of_some _ e1)
theorem sorted_dict {ks : List Str} {ps : List PV} (hh : A.handled = none) (hn : ks.length < 2) : CSpec X A (.builtin "sorted") [.dict X.w.params ks ps] k (.list (ks.map .str)) k := by
  intro s Fz vs bb hvs Q E q
  obtain ⟨v, rfl, hv⟩ := hvs.one_inv
  have hnd : ks.Nodup := by
    rcases ks with _ | ⟨x, _ | ⟨y, r⟩⟩
    · exact .nil
    · simp
    · simp at hn; omega
  obtain ⟨a, us, ep, rfl, hS, hd, hus, hl⟩ := dict_at bb hv hnd
  have hlen : (ks.zip us).length = ks.length := by simp [← hl]
  refine call_function_entry kind_sorted plain_sorted entry_sorted (args_sorted1 _) ?_
  unfold Builtin.«sorted»
  refine wpAny_bind (m := checkCount "sorted" 1 1 _) (wpAny_pure ?_)
  refine wpAny_bind (kdu_collect (A := A.in1) (kdl_dict (knd := sk X) (kvs := ks.zip us) (ep := ep) hS) hh hd (by rw [hlen]; simp [sizeLine]; omega) fun h' tk acc hk hacc => ?_)
  have hla : acc.toList.length = ks.length := by rw [Array.length_toList, hacc.1, hlen]
  refine wpAny_bind (wpAny_newList ?_ (by rw [hla]; simp [sizeLine]; omega))
  have hD : (h'.push { cls := .type "list", data := .seq acc.toList.toArray }).get? h'.objs.size = some (seqObj "list" acc.toList.toArray 0) := Heap.get?_push_size _ rfl
  have b0 : BS X s Fz k Fz { s with heap := h' } := PS.bs ⟨⟨_, _, rfl⟩, hk⟩ bb
  have fr' := b0.ok.free (Nat.le_refl h'.objs.size)
  have fr : s.heap.get? h'.objs.size = none ∧ Fz h'.objs.size = none ∧ h'.objs.size ≠ X.t := by
    refine ⟨?_, fr'.2⟩
    cases e : s.heap.get? h'.objs.size with
    | none => rfl
    | some o => have := hk _ _ e; rw [get_size] at this; cases this
  refine wpAny_bind (wpAny_holding (wpAny_call_entry PyProof.Rows.slot_list_sort ⟨_, hD, rfl⟩ PyProof.Rows.entry_list_sort (sort_short (s := { s with heap := h'.push { cls := .type "list", data := .seq acc.toList.toArray }, toks := tk }) hD (by rw [hla]; exact hn) ⟨.none, rfl, ?_⟩) (PyProof.Rows.args_list_sort _)))
  refine wpAny_pure ⟨_, rfl, ?_⟩
  obtain ⟨e, he⟩ := sortedHeap_at (out := acc.toList.toArray) hD
  have b1 : BS X s Fz k Fz { s with heap := h'.push { cls := .type "list", data := .seq acc.toList.toArray }, toks := tk } := PS.bs ⟨⟨_, _, rfl⟩, fun b o e => Heap.get?_push_of_some _ (hk b o e)⟩ bb
  have b2 := b1.but (tk := tk) (sortedHeap_but (vs := acc.toList) (out := acc.toList.toArray)) fr.1 fr.2.1 fr.2.2
  have b3 := b2.freeze he fr.1 fr.2.1 fr.2.2
  refine q _ _ _ b3 ?_
  simp only [VR]
  refine ⟨_, acc.toList, rfl, ⟨_, FMap.put_self, rfl, e, rfl⟩, strs_vr hla.symm fun i x hx => ?_⟩
  have hi : i < acc.toList.length := by rw [hla]; exact (List.getElem?_eq_some_iff.mp hx).1
  refine ⟨acc.toList[i], List.getElem?_eq_getElem hi, ?_⟩
  obtain ⟨y, z, h1, h2⟩ := hacc.2 i _ (by rw [← Array.getElem?_toList]; exact List.getElem?_eq_getElem hi)
  obtain ⟨h1, _⟩ := List.getElem?_zip_eq_some.mp h1
  rw [hx] at h1; cases h1
  obtain ⟨t, ht⟩ := Value.isStrOf_shape h2
  rw [ht]
  exact vr_str
end
section
variable {X : Cx} {env : Env} {A : Around} {vm vm' : List (Str × PV)} {gl : Option (Str × List PV)} {k k₁ k₂ k₃ k' : TS} {s₀ s s' : Shared} {F₀ Fz Fz' : FMap} {own : Bool}

theorem Ns.uniq {h : Heap} {a : Addr} {m m' : Str → Option Value} (x : h.Ns a m) (y : h.Ns a m') (n : Str) : m n = m' n := by
  obtain ⟨o, es, ep, ho, hd, _, hm⟩ := x
  obtain ⟨o', es', ep', ho', hd', _, hm'⟩ := y
  rw [ho] at ho'; cases ho'
  rw [hd] at hd'; cases hd'
  rw [← hm, ← hm']
/- a growing list -/
theorem FS.storeG {x : Str} {l : List PV} {a : Addr} {vs : List Value} {n : Nat} (f : FS X s₀ F₀ env vm none own k Fz s) (hx : env.kindOf x = some .local) (hn : vm.lookup x = none) (hl : IsL s.heap a vs.toArray n) (hv : VRs X.t Fz l vs)
    (h1 : s₀.heap.get? a = none) (h2 : Fz a = none) (h3 : a ≠ X.t) {Q : Unit → Shared → Prop} {E : Value → Shared → Prop}
    (q : ∀ s', FS X s₀ F₀ env vm (some (x, l)) own k Fz s' → AX env s s' → Q () s') : wpAny X.M A (storeName env x (.ref a)) Q E s := by
  obtain ⟨m, cm, r⟩ := f.fr
  refine wpAny_storeName_local hx r.ns (fun h' hn' hs => q _ ?_ (AX.mk (fun b o h2 _ e => (hs.2 b h2).trans e) fun b o e => live_but hs.extBut (by obtain ⟨o, _, _, h, _⟩ := Ns.obj hn'; exact ⟨o, h⟩) e)) (by rw [r.kind]; rfl)
  refine ⟨f.bs.but hs.extBut r.Lnew r.FL r.Lt, _, cm, r.kind, r.glob, r.bui, hn', r.Lnew, r.FL, r.Lt, fun n c e => (r.cell n c e).sameBut hs (r.cF n c e).2.2, r.cF, r.cnew, r.apart, fun n p' e => ?_, fun y l' e => ?_⟩
  · obtain ⟨u, w1, w2⟩ := r.vars n p' e
    have hne : n ≠ x := fun z => by subst z; rw [hn] at e; cases e
    exact ⟨u, w1, w2.imp (fun z => ⟨z.1, (if_neg hne).trans z.2⟩) id⟩
  · cases e
    refine ⟨a, vs, hx, if_pos rfl, ⟨n, (hs.2 a fun z => ?_).trans hl⟩, hv, h1, h2, h3⟩
    obtain ⟨oL, es, ep, hL, hLd⟩ := Ns.obj r.ns
    subst z
    unfold IsL at hl
    rw [hl] at hL; cases hL; cases hLd
/-- the list grows -/
theorem FS.grown {x : Str} {l l' : List PV} (f : FS X s₀ F₀ env vm (some (x, l)) own k Fz s) {a : Addr} {vs vs' : List Value} {h' : Heap} {tk n n' : Nat} (ha : IsL s.heap a vs.toArray n) (hm : ∀ m cm, FR X env vm (some (x, l)) own s₀.heap Fz m cm s.heap → m x = some (.ref a))
    (hs : Heap.ExtBut a s.heap h') (hl : IsL h' a vs'.toArray n') (hv : VRs X.t Fz l' vs') : FS X s₀ F₀ env vm (some (x, l')) own k Fz { s with heap := h', toks := tk } := by
  obtain ⟨m, cm, r⟩ := f.fr
  obtain ⟨a', us, w1, w2, w3, w4, w5, w6, w7⟩ := r.grow x l rfl
  have : a' = a := by have := hm m cm r; rw [w2] at this; cases this; rfl
  subst this
  unfold IsL at ha
  refine ⟨f.bs.but hs w5 w6 w7, m, cm, r.kind, r.glob, r.bui, r.ns.extBut hs (fun e => ?_), r.Lnew, r.FL, r.Lt, fun n c e => ?_, r.cF, r.cnew, r.apart, r.vars, fun y z e => ?_⟩
  · obtain ⟨oL, es, ep, hL, hLd⟩ := Ns.obj r.ns
    rw [e, ha] at hL; cases hL; cases hLd
  · obtain ⟨o, hc, hd⟩ := r.cell n c e
    exact ⟨o, hs c o (fun z => by subst z; rw [ha] at hc; cases hc; cases hd) hc, hd⟩
  · cases e
    exact ⟨a', vs', w1, w2, ⟨n', hl⟩, hv, w5, w6, w7⟩
theorem ex_glist {x : Str} {px lp pos : Pos} {es : List PySem.Expr} {ps : List PV} (h : AEv X env A vm none k es ps k') (hx : env.kindOf x = some .local := by kernel_rfl) (hn : vm.lookup x = none := by kernel_rfl) (hl : ps.length ≤ sizeLine := by (first | decide | simp [sizeLine]))
    (hs : swapsWithSole [.Name x px] (.List es lp) pos.line env = pure false := by rfl) (hw : swappedStores [.Name x px] (.List es lp) env = pure none := by rfl) : Ex X env A vm none k (exec (.Assign [.Name x px] (.List es lp) pos) env) (.next vm (some (x, ps)) k') := by
  intro s₀ F₀ s Fz Q E f q
  refine wpAny_Assign_stores (wpAny_List (h.run.2 _ _ _ _ _ f _ E fun vs s₁ F₁ b₁ r₁ => ⟨by rw [r₁.length]; exact hl, ?_⟩)) hs hw
  have fr := b₁.ok.free (Nat.le_refl s₁.heap.objs.size)
  have hz : s₀.heap.get? s₁.heap.objs.size = none := by
    cases e : s₀.heap.get? s₁.heap.objs.size with
    | none => rfl
    | some o => have := (f.bs.trans b₁).keep _ o fr.2.2 e; rw [fr.1] at this; cases this
  have b₂ : BS X s₁ F₁ k' F₁ { s₁ with heap := s₁.heap.push { cls := .type "list", data := .seq vs.toArray } } := PS.bs ⟨⟨_, _, rfl⟩, fun b o e => Heap.get?_push_of_some _ e⟩ b₁.ok
  have f₂ := (f.step b₁).step b₂
  refine wpAny_assign_Name (f₂.storeG (l := ps) (n := 0) hx hn (Heap.get?_push_size _ rfl) r₁ hz fr.2.1 fr.2.2 fun s' f' ax => q _ s' F₁ ⟨rfl, f'⟩ ((b₁.trans b₂).xs.trans ax.xs))
theorem list_extendW (l b : Addr) (items items2 : Array Value) (n n2 : Nat) (dd2 : Option Addr) (sl2 : Array (Option Value)) (hc0 : ¬(!items.isEmpty && Builtin.List.listTooLong (items.size + items2.size)) = true) (hc1 : items.size ≤ sizeLine) (hs2 : items.size + items2.size ≤ sizeLine + 1) :
    Meets (Builtin.«list.extend» ⟨[.ref l, .ref b], []⟩) (fun _ R s => s.heap.get? l = some { cls := .type "list", dict := none, data := .seq items n, slots := #[] } ∧ s.heap.get? b = some { cls := .type "list", dict := dd2, data := .seq items2 n2, slots := sl2 } ∧ R (.ok (.ret Value.none)) { s with heap := s.heap.update l (Obj.mapSeq fun x => x ++ items2), toks := s.toks }) :=
  .of_wp fun prog w A R s h => by
    obtain ⟨hp, g, d, tk, os⟩ := s; obtain ⟨hl, hb, h⟩ := h; have f1 := AutoSeq1.idx_int; have f2 := AutoSeq1.sub_tuple_tuple; have f3 := AutoSeq1.sub_list_list; have f4 := AutoSeq1.sub_tuple_list; have f5 := AutoSeq1.sub_list_tuple;
    have hz' : (items ++ items2).size ≤ sizeLine + 1 := by rw [Array.size_append]; exact hs2
    wp_walk using (wpAny_updateSeq hl rfl (hz := hc1) (_hz' := hz')), wpAny_loadPart' hl, wpAny_loadPart' hb; exact ⟨_, rfl, h⟩
/-- a method of the growing list, one argument -/
theorem ex_gmeth {x name : Str} {px apos cpos pos : Pos} {e : PySem.Expr} {l l' : List PV} {p : PV} {id n : String} (he : EvE X env A vm (some (x, l)) k e p k') (hnm : name = Str.ofString n) (slot : Slot "list" n id)
    (hty : typeOf (.builtin id) = pure (.type "method_descriptor"))
    (hcall : ∀ s Fz v a vs n (Q : Value → Shared → Prop) (E : Value → Shared → Prop), Base X k' Fz s.heap → VR X.t Fz p v → IsL s.heap a vs.toArray n → VRs X.t Fz l vs → (∀ h' vs' n', Heap.ExtBut a s.heap h' → IsL h' a vs'.toArray n' → VRs X.t Fz l' vs' → Q .none { s with heap := h' }) → wpAny X.M A (call (.builtin id) [.ref a, v]) Q E s)
    (hbase : attributeBase (.Name x px) name env (eval (.Name x px) env) = eval (.Name x px) env := by rfl)
    (hline : methodCallPos true (.Name x px) env apos cpos = pure cpos := by rfl)
    (htrees : starEach [e] env = (false, eval e env) :: starEach [] env := by rfl)
    (hi : interactive env = false := by rfl) (hsw : swapsWith (.Call (.Attribute (.Name x px) name apos) [e] [] cpos) none pos.line env = pure false := by rfl)
    (hd : (x == ("__debug__" : Str)) = false := by decide) :
    Ex X env A vm (some (x, l)) k (exec (.Expr (.Call (.Attribute (.Name x px) name apos) [e] [] cpos) pos) env) (.next vm (some (x, l')) k') := by
  intro s₀ F₀ s Fz Q E f q
  refine wpAny_Expr_any ?_ hi hsw
  show wpAny X.M A (do
    let ov ← attributeBase (.Name x px) name env (eval (.Name x px) env)
    standAt apos.atName
    methodCall (.Name x px) name apos cpos env ov 1 (backTo cpos (starEach [e] env)) []) _ E s
  rw [hbase]
  obtain ⟨m, cm, r⟩ := f.fr
  obtain ⟨a, vs, w1, w2, ⟨n0, w3⟩, w4, w5, w6, w7⟩ := r.grow x l rfl
  refine wpAny_bind (wpAny_Name (wpAny_loadName_local r.kind w1 r.ns w2 ?_) hd)
  refine wpAny_bind (wpAny_standAt ?_)
  unfold methodCall
  have ha : AEv X env A vm (some (x, l)) k [e] [p] k' := .cons he htrees .nil
  have hr := ha.run (pos := cpos)
  have hf : methodCallForm 1 (backTo cpos (starEach [e] env)) [] = true := by
    unfold methodCallForm
    have h2 : (backTo cpos (starEach [e] env)).all (fun x => !x.1) = true := by
      rw [List.all_eq_not_any_not]; simpa using hr.1.1
    rw [h2]
    simp
  rw [hf]
  refine wpAny_bind (wpAny_holding ?_)
  unfold calleeOf
  rw [if_pos rfl]
  have hL : s.heap.IsList a vs.toArray := ⟨_, w3, rfl, _, rfl⟩
  subst hnm
  refine getMethod_list_of slot hty hL ?_ ?_
  · exact ⟨_, w3, rfl⟩
  dsimp only
  rw [hline]
  refine wpAny_bind (wpAny_pure ?_)
  refine callWith_val (fun _ h => nomatch h) hr.1.1 (evalArgs_any hr.1.1 (hr.2 _ _ _ _ _ f _ E fun us s₁ F₁ b₁ r₁ => ?_))
  obtain ⟨v, rfl, hv⟩ := r₁.one_inv
  have f₁ := f.step b₁
  have w3' : IsL s₁.heap a vs.toArray n0 := b₁.keep _ _ w7 w3
  refine hcall s₁ F₁ v a vs n0 _ E b₁.ok hv w3' (w4.mono b₁.ext) fun h' vs' n' hs hl' hv' => ?_
  have f₂ : FS X s₀ F₀ env vm (some (x, l')) true k' F₁ { s₁ with heap := h' } := FS.grown (tk := s₁.toks) f₁ w3' (fun m' cm' r' => ?_) hs hl' hv'
  · refine q _ _ F₁ ⟨rfl, f₂⟩ (b₁.xs.trans ⟨.refl _, fun b o q1 q2 q3 q4 e => hs b o (fun z => ?_) e, fun _ _ e _ => .inl e, fun b o e => ?_⟩)
    · subst z; unfold IsL at w3'; rw [w3'] at e; cases e; exact q4 rfl
    · exact live_but hs ⟨_, hl'⟩ e
  · have ke : Heap.ExtBut X.t s.heap s₁.heap := fun a o n e => b₁.keep a o n e
    exact (Ns.uniq r'.ns (r.ns.extBut ke r.Lt) x).trans w2
/-- x.append(e) -/
theorem ex_append {x : Str} {px apos cpos pos : Pos} {e : PySem.Expr} {l : List PV} {p : PV} (he : EvE X env A vm (some (x, l)) k e p k') (hz : l.length ≤ 1000000)
    (hbase : attributeBase (.Name x px) "append" env (eval (.Name x px) env) = eval (.Name x px) env := by rfl)
    (hline : methodCallPos true (.Name x px) env apos cpos = pure cpos := by rfl)
    (htrees : starEach [e] env = (false, eval e env) :: starEach [] env := by rfl)
    (hi : interactive env = false := by rfl) (hsw : swapsWith (.Call (.Attribute (.Name x px) "append" apos) [e] [] cpos) none pos.line env = pure false := by rfl)
    (hd : (x == ("__debug__" : Str)) = false := by decide) :
    Ex X env A vm (some (x, l)) k (exec (.Expr (.Call (.Attribute (.Name x px) "append" apos) [e] [] cpos) pos) env) (.next vm (some (x, l ++ [p])) k') :=
  ex_gmeth (n := "append") he rfl F.slot_list_append F.type_list_append (fun s Fz v a vs n Q E b hv hl hvs q => by
    have hn := hvs.length
    refine call_meets F.slot_list_append ⟨_, hl, rfl⟩ F.entry_list_append (F.args_list_append_2 _ _) (AutoListH.list_append_list_val_0 a vs.toArray n v (by simp [sizeLine]; omega)) ⟨hl, ?_⟩
    have hu := hl.update fun x => x.push v
    rw [show vs.toArray.push v = (vs ++ [v]).toArray by simp] at hu
    exact q _ (vs ++ [v]) _ (Heap.SameBut.update ..).extBut hu (hvs.append (.one hv))) hbase hline htrees hi hsw hd
theorem ex_extend {x : Str} {px apos cpos pos : Pos} {e : PySem.Expr} {l l' : List PV} (he : EvE X env A vm (some (x, l)) k e (.list l') k') (hz : l.length ≤ 1000000) (hz' : l'.length ≤ 1000000)
    (hbase : attributeBase (.Name x px) "extend" env (eval (.Name x px) env) = eval (.Name x px) env := by rfl)
    (hline : methodCallPos true (.Name x px) env apos cpos = pure cpos := by rfl)
    (htrees : starEach [e] env = (false, eval e env) :: starEach [] env := by rfl)
    (hi : interactive env = false := by rfl) (hsw : swapsWith (.Call (.Attribute (.Name x px) "extend" apos) [e] [] cpos) none pos.line env = pure false := by rfl)
    (hd : (x == ("__debug__" : Str)) = false := by decide) :
    Ex X env A vm (some (x, l)) k (exec (.Expr (.Call (.Attribute (.Name x px) "extend" apos) [e] [] cpos) pos) env) (.next vm (some (x, l ++ l')) k') :=
  ex_gmeth (n := "extend") he rfl F.slot_list_extend F.type_list_extend (fun s Fz v a vs n Q E b hv hl hvs q => by
    simp only [VR] at hv
    obtain ⟨c, us, rfl, ⟨⟨cls, dd, data, sl⟩, ho, hc, m, hdt⟩, hus⟩ := hv
    simp only at hc hdt
    subst hc hdt
    have hn := hvs.length
    have hn' := hus.length
    have ho := b.now _ _ ho
    refine call_meets F.slot_list_extend ⟨_, hl, rfl⟩ F.entry_list_extend (F.args_list_extend_2 _ _) (list_extendW a c vs.toArray us.toArray n m dd sl ?_ (by simp [sizeLine]; omega) (by simp [sizeLine]; omega)) ⟨hl, ho, ?_⟩
    · have : Builtin.List.listTooLong (vs.toArray.size + us.toArray.size) = false := by unfold Builtin.List.listTooLong; simp [sizeLine]; omega
      rw [this]; simp
    · have hu := hl.update fun x => x ++ us.toArray
      rw [show vs.toArray ++ us.toArray = (vs ++ us).toArray by simp] at hu
      exact q _ (vs ++ us) _ (Heap.SameBut.update ..).extBut hu (hvs.append (hus))) hbase hline htrees hi hsw hd
end
open Builtin in
noncomputable def findB (b sub : List UInt8) (lo hi : Nat) : Int := match Bytes.find? b.toArray sub.toArray lo hi with
  | some i => (i : Int)
  | none => -1
noncomputable def bjoin (sep : List UInt8) : List (List UInt8) → List UInt8
  | [] => []
  | [x] => x
  | x :: r => x ++ sep ++ bjoin sep r
noncomputable def bsplit (b sep : List UInt8) : List (List UInt8) := (splitParts b.toArray sep.toArray).map Array.toList
section
open Builtin
theorem joined_go (sep : Array UInt8) : ∀ (l : List (Array UInt8)) (k : Nat) (out : Array UInt8), 0 < k → ((l.zipIdx k).foldl (fun out (p, i) => (if i > 0 then out ++ sep else out) ++ p) out) = l.foldl (fun out p => out ++ sep ++ p) out
  | [], _, _, _ => rfl
  | x :: r, k, out, h => by
    rw [List.zipIdx_cons, List.foldl_cons, List.foldl_cons]
    dsimp only
    rw [if_pos h]
    exact joined_go sep r (k + 1) _ (Nat.succ_pos k)
theorem foldl_sep (sep : Array UInt8) : ∀ (l : List (Array UInt8)) (out : Array UInt8), (l.foldl (fun out p => out ++ sep ++ p) out).toList = out.toList ++ (l.map fun p => sep.toList ++ p.toList).flatten
  | [], out => by simp
  | x :: r, out => by rw [List.foldl_cons, foldl_sep]; simp
theorem bjoin_flat (sep : List UInt8) : ∀ (x : List UInt8) (r : List (List UInt8)), bjoin sep (x :: r) = x ++ (r.map fun p => sep ++ p).flatten
  | x, [] => by simp [bjoin]
  | x, y :: r => by
    show x ++ sep ++ bjoin sep (y :: r) = _
    rw [bjoin_flat sep y r]; simp
  termination_by _ r => r.length
theorem joined_eq (sep : List UInt8) (bs : List (List UInt8)) : Bytes.joined sep.toArray (bs.map List.toArray) = (bjoin sep bs).toArray := by
  unfold Bytes.joined
  cases bs with
  | nil => rfl
  | cons x r =>
    rw [List.map_cons, List.zipIdx_cons, List.foldl_cons]
    dsimp only
    rw [if_neg (by omega), joined_go _ _ _ _ (by omega)]
    rw [← Array.toList_inj, foldl_sep, bjoin_flat]
    simp [Function.comp_def]
end
section
variable {X : Cx} {env : Env} {A : Around} {vm vm' : List (Str × PV)} {gl : Option (Str × List PV)} {k k₁ k₂ k₃ k' : TS} {s₀ s s' : Shared} {F₀ Fz Fz' : FMap} {own : Bool}
theorem VRs.three_inv {t : Addr} {F : FMap} {p q r : PV} {vs : List Value} (h : VRs t F [p, q, r] vs) : ∃ v u w, vs = [v, u, w] ∧ VR t F p v ∧ VR t F q u ∧ VR t F r w := by
  simp only [VRs] at h; obtain ⟨v, r, rfl, hv, u, r', rfl, hu, w, r'', rfl, hw, rfl⟩ := h; exact ⟨v, u, w, rfl, hv, hu, hw⟩
theorem VRs.four_inv {t : Addr} {F : FMap} {p q r z : PV} {vs : List Value} (h : VRs t F [p, q, r, z] vs) : ∃ v u w y, vs = [v, u, w, y] ∧ VR t F p v ∧ VR t F q u ∧ VR t F r w ∧ VR t F z y := by
  simp only [VRs] at h; obtain ⟨v, r, rfl, hv, u, r', rfl, hu, w, r'', rfl, hw, y, _, rfl, hy, rfl⟩ := h; exact ⟨v, u, w, y, rfl, hv, hu, hw, hy⟩
theorem join_b {sep : List UInt8} {bs : List (List UInt8)} (hsz : (bs.map List.length).sum + sep.length * bs.length ≤ 16777216) : CSpec X A (.builtin "bytes.join") [.bytes sep, .list (bs.map .bytes)] k (.bytes (bjoin sep bs)) k := by
  intro s Fz vs bb hvs Q E q
  obtain ⟨v, u, rfl, hv, hu⟩ := hvs.two_inv
  simp only [VR] at hv hu
  obtain ⟨t, rfl⟩ := hv
  obtain ⟨a, us, rfl, ⟨o, ho, hc, n, hd⟩, hus⟩ := hu
  refine call_join (bs := bs) ⟨o, bb.now _ _ ho, hc, n, hd⟩ (bytes_are hus) (by simpa using hsz) fun t' k' => q _ _ Fz (BS.toks bb _) ?_
  rw [joined_eq]
  exact vr_bytes
theorem find_b {b sub : List UInt8} {lo hi : Nat} (hh : hi ≤ b.length) : CSpec X A (.builtin "bytes.find") [.bytes b, .bytes sub, .int lo, .int hi] k (.int (findB b sub lo hi)) k := by
  intro s Fz vs bb hvs Q E q
  obtain ⟨v, u, w, y, rfl, hv, hu, hw, hy⟩ := hvs.four_inv
  simp only [VR] at hv hu hw hy
  obtain ⟨t, rfl⟩ := hv
  obtain ⟨t, rfl⟩ := hu
  obtain ⟨t, rfl⟩ := hw
  obtain ⟨t, rfl⟩ := hy
  exact call_find (by simpa using hh) (q _ _ Fz (BS.toks bb _) vr_int)
theorem BytesAre.vrs {t : Addr} {F : FMap} {vs : List Value} {l : List (List UInt8)} (h : BytesAre vs l) : VRs t F (l.map .bytes) vs := by
  induction h with
  | nil => simp only [List.map_nil, VRs]
  | cons x tk _ ih => exact .cons vr_bytes ih
theorem split_b {b sep : List UInt8} (hs : sep.isEmpty = false) (hz : ∀ x ∈ bsplit b sep, x.length ≤ 16777216) (hn : (bsplit b sep).length ≤ 16777216) : CSpec X A (.builtin "bytes.split") [.bytes b, .bytes sep] k (.list ((bsplit b sep).map .bytes)) k := by
  intro s Fz vs bb hvs Q E q
  obtain ⟨v, u, rfl, hv, hu⟩ := hvs.two_inv
  simp only [VR] at hv hu
  obtain ⟨t, rfl⟩ := hv
  obtain ⟨t', rfl⟩ := hu
  refine call_split (by simpa using hs) (fun x hx => ?_) (by simpa [bsplit, sizeLine] using hn) fun ws k' hw => ?_
  · have := hz x.toList (by unfold bsplit; exact List.mem_map_of_mem hx)
    simpa [sizeLine] using this
  · have b₂ := BS.push (tk := k') bb (o := { cls := .type "list", data := .seq ws.toArray }) rfl
    refine q _ _ _ b₂ ?_
    simp only [VR]
    exact ⟨_, ws, rfl, ⟨_, FMap.put_self, rfl, 0, rfl⟩, hw.vrs⟩
theorem meth_str {x : Str} {name : Str} {n id : String} (hn : name = Str.ofString n) (slot : Slot "str" n id) (ty : typeOf (.builtin id) = pure (.type "method_descriptor")) : MethOf X A (.str x) name (.builtin id) := by
  intro s F k v pl b hv Q E q
  subst hn
  simp only [VR] at hv
  obtain ⟨t, rfl⟩ := hv
  exact getMethod_builtin (typeIs_str s _ t) PySem.F.plainAttrs_str slot ty (fun _ e => nomatch e) q
noncomputable def signs (cs : List Nat) : List PV := cs.map fun c => .str ⟨#[c]⟩
theorem sj_eq (cs : List Nat) : Str.join ⟨#[]⟩ (cs.map fun c => (⟨#[c]⟩ : Str)) = ⟨cs.toArray⟩ := by
  induction cs with
  | nil => rfl
  | cons c cs ih =>
    cases cs with
    | nil => rfl
    | cons d r =>
      show (⟨#[c]⟩ : Str) ++ ⟨#[]⟩ ++ Str.join ⟨#[]⟩ ((d :: r).map fun c => (⟨#[c]⟩ : Str)) = _
      rw [ih]
      show (⟨#[c] ++ #[] ++ (d :: r).toArray⟩ : Str) = _
      simp
theorem signs_values : ∀ {cs : List Nat} {vs : List Value}, VRs X.t Fz (signs cs) vs → ∃ l : List (Str × Tok), vs = strValues l ∧ l.map (·.1) = cs.map fun c => (⟨#[c]⟩ : Str)
  | [], vs, h => by simp only [signs, List.map_nil, VRs] at h; subst h; exact ⟨[], rfl, rfl⟩
  | c :: cs, vs, h => by
    simp only [signs, List.map_cons, VRs] at h
    obtain ⟨v, r, rfl, hv, hr⟩ := h
    simp only [VR] at hv
    obtain ⟨t, rfl⟩ := hv
    obtain ⟨l, rfl, hl⟩ := signs_values hr
    exact ⟨(⟨#[c]⟩, t) :: l, rfl, by simp [hl]⟩
theorem join_s {cs : List Nat} (hz : cs.length ≤ 1000000) : CSpec X A (.builtin "str.join") [.str ⟨#[]⟩, .list (signs cs)] k (.str ⟨cs.toArray⟩) k := by
  intro s Fz vs bb hvs Q E q
  obtain ⟨v, u, rfl, hv, hu⟩ := hvs.two_inv
  simp only [VR] at hv hu
  obtain ⟨t, rfl⟩ := hv
  obtain ⟨a, us, rfl, ⟨o, ho, hc, n, hd⟩, hus⟩ := hu
  obtain ⟨l, rfl, hl⟩ := signs_values hus
  refine SC.join (texts := cs.map fun c => (⟨#[c]⟩ : Str)) ⟨o, bb.now _ _ ho, hc, n, hd⟩ hl ?_ fun t' k' => q _ _ Fz (BS.toks bb _) ?_
  · unfold JoinOk
    rw [StrLaws.joinTotal]
    have : ((cs.map fun c => (⟨#[c]⟩ : Str)).map (·.length)).sum = cs.length := by
      clear hl hvs hus hz q
      induction cs with
      | nil => rfl
      | cons c cs ih =>
        rw [List.map_cons, List.map_cons, List.sum_cons, ih]
        show 1 + cs.length = cs.length + 1
        omega
    unfold Builtin.Str.tooLong
    rw [this]
    simp [sizeLine, Str.length]
    omega
  · show VR X.t Fz _ (.str (Builtin.Str.glued _ _) t')
    rw [StrLaws.glued_eq_join, sj_eq]
    exact vr_str
end
section
variable {X : Cx} {env : Env} {A : Around} {vm vm' : List (Str × PV)} {gl : Option (Str × List PV)} {k k₁ k₂ k₃ k' : TS} {s₀ s s' : Shared} {F₀ Fz Fz' : FMap} {own : Bool}

/-- an item, with what stands at k₂ -/
theorem ev_subK {e i : PySem.Expr} {pos : Pos} {p q z : PV} {T id : String} (h : EvE X env A vm gl k e p k₁) (hi : EvE X env A vm gl k₁ i q k₂) (hT : ∀ (s : Shared) Fz v, Base X k₂ Fz s.heap → VR X.t Fz p v → s.TypeIs v T) (hl : typeLookup (.type T) "__getitem__" = pure (some (.builtin id)))
    (hg : ∀ s Fz v u, Base X k₂ Fz s.heap → VR X.t Fz p v → VR X.t Fz q u → At X A s Fz (getItem v u) k₂ fun F x => VR X.t F z x)
    (hs : ∀ o u, ∃ ops, subscripted i false o u = operate ops (getItem o u) := by exact fun _ _ => ⟨_, rfl⟩) : EvE X env A vm gl k (.Subscript e i pos) z k₂ := by
  intro own s₀ F₀ s Fz f Q E qq
  rw [eval_Subscript]
  refine wpAny_bind (@h _ _ _ _ _ f _ E fun v s₁ F₁ b₁ r₁ => wpAny_bind (wpAny_holding (@hi _ _ _ _ _ (f.step b₁) _ E fun u s₂ F₂ b₂ r₂ => wpAny_bind (wpAny_standAt ?_))))
  have hT := hT s₂ F₂ v b₂.ok (r₁.mono b₂.ext)
  refine wpAny_bind ?_
  rw [getitemInPython_of_ne hT.not_modules]
  refine wpAny_bind (wpAny_specialOf hT hl ?_)
  obtain ⟨ops, hs⟩ := hs v u
  have fin : wpAny X.M A (subscripted i false v u) (fun r s₃ => wpAny X.M A (letTemporaryGo e v r >>= fun _ => pure r) Q E s₃) E s₂ := by
    rw [hs]
    exact wpAny_operating (hg s₂ F₂ v u b₂.ok (r₁.mono b₂.ext) r₂ _ E fun r s₃ F₃ b₃ r₃ => wpAny_bind (wpAny_letTemp (wpAny_pure (qq r s₃ F₃ ((b₁.trans b₂).trans b₃) r₃))))
  first
    | exact wpAny_pure (wpAny_bind fin)
    | exact wpAny_bind (wpAny_pure (wpAny_bind fin))
    | exact wpAny_bind fin
theorem ev_item_dict {e i : PySem.Expr} {pos : Pos} {ks : List Str} {ps : List PV} {x : Str} {j : Nat} {p : PV} (h : EvE X env A vm gl k e (.dict X.w.params ks ps) k₁) (hi : EvE X env A vm gl k₁ i (.str x) k₂) (hn : ks.Nodup) (hx : ks[j]? = some x) (hp : ps[j]? = some p)
    (hs : ∀ o u, ∃ ops, subscripted i false o u = operate ops (getItem o u) := by exact fun _ _ => ⟨_, rfl⟩) : EvE X env A vm gl k (.Subscript e i pos) p k₂ :=
  ev_subK h hi (T := "dict") (fun s Fz v b hv => by obtain ⟨a, us, ep, rfl, hS, hd, _⟩ := dict_at b hv hn; exact hd.dictOf.typeIs) F.slot_dict_getitem.lookup (fun s Fz v u b hv hu => item_dict hn hx hp s Fz _ v u b hv hu) hs

/- the tape -/
theorem tape_is {cs : List Int} {i : Int} (b : Base X (some (cs, i)) Fz s.heap) : ∃ c tk, VR X.t Fz (.list (cs.map .int)) c ∧ s.heap.IsList X.t #[c, .int i tk] := b.tape
theorem ev_tape {e ie : PySem.Expr} {pos : Pos} {cs : List Int} {i : Int} {j : Nat} {z : PV} (h : EvE X env A vm gl (some (cs, i)) e .tape (some (cs, i))) (hi : EvE X env A vm gl (some (cs, i)) ie (.int j) (some (cs, i))) (hj : (j = 0 ∧ z = .list (cs.map .int)) ∨ (j = 1 ∧ z = .int i))
    (hs : ∀ o u, ∃ ops, subscripted ie false o u = operate ops (getItem o u) := by exact fun _ _ => ⟨_, rfl⟩) : EvE X env A vm gl (some (cs, i)) (.Subscript e ie pos) z (some (cs, i)) := by
  refine ev_subK h hi (T := "list") (fun s Fz v b hv => ?_) list_getitem_lookup (fun s Fz v u b hv hu Q E q => ?_) hs
  · simp only [VR] at hv; subst hv
    obtain ⟨c, tk, _, hl⟩ := tape_is b
    exact hl.typeIs
  · simp only [VR] at hv hu; subst hv
    obtain ⟨t, rfl⟩ := hu
    obtain ⟨c, tk, hc, hl⟩ := tape_is b
    rcases hj with ⟨rfl, rfl⟩ | ⟨rfl, rfl⟩
    · exact wpAny_getItem_list hl (by omega) (by omega) (by rfl) (q c s Fz (BS.refl b) hc)
    · exact wpAny_getItem_list hl (by omega) (by omega) (by rfl) (q _ s Fz (BS.refl b) vr_int)
theorem ex_tape {o ie ve : PySem.Expr} {pos' pos : Pos} {cs : List Int} {i j : Int} (hv : EvE X env A vm gl (some (cs, i)) ve (.int j) (some (cs, i))) (h : EvE X env A vm gl (some (cs, i)) o .tape (some (cs, i))) (hi : EvE X env A vm gl (some (cs, i)) ie (.int 1) (some (cs, i)))
    (hs : swapsWith ve (some (.Subscript o ie pos')) pos.line env = pure false := by rfl) : Ex X env A vm gl (some (cs, i)) (exec (.Assign [.Subscript o ie pos'] ve pos) env) (.next vm gl (some (cs, j))) := by
  intro s₀ F₀ s Fz Q E f q
  refine wpAny_Assign_Subscript (@hv _ _ _ _ _ f _ E fun v s₁ F₁ b₁ r₁ => @h _ _ _ _ _ (f.step b₁) _ E fun ov s₂ F₂ b₂ r₂ => @hi _ _ _ _ _ ((f.step b₁).step b₂) _ E fun iv s₃ F₃ b₃ r₃ => ?_) hs
  simp only [VR] at r₁ r₂ r₃
  subst r₂
  obtain ⟨t, rfl⟩ := r₁
  obtain ⟨t', rfl⟩ := r₃
  obtain ⟨c, tk, hc, hl⟩ := tape_is b₃.ok
  refine wpAny_setItem_list hl (by omega) (by omega) (by simp) fun h' hl' hsb => ?_
  have hb : BS X s₃ F₃ (some (cs, j)) F₃ { s₃ with heap := h' } := by
    refine ⟨⟨_, _, rfl⟩, fun b o n e => hsb.extBut b o n e, .refl _, fun _ _ e => .inl e, b₃.ok.top, fun a o e => hsb.extBut a o (fun z => ?_) (b₃.ok.now a o e), b₃.ok.nt, ⟨c, t, hc, by simpa using hl'⟩, ?_⟩
    · subst z; rw [b₃.ok.nt] at e; cases e
    · obtain ⟨o, ho, _⟩ := hl'; exact ⟨o, ho⟩
  have b := ((b₁.trans b₂).trans b₃).trans hb
  exact q _ _ F₃ ⟨rfl, f.step b⟩ b.xs

/- a def, its parts found -/
noncomputable def fdOf (o : Obj) : FuncData := match o.data with | .func fd => fd | _ => ⟨⟨#[]⟩, ⟨#[]⟩, noArgs, .stmts [], noScope, 0, [], .none, .none, .none, .none, none, .none, .none, 0⟩
theorem fspec {n : Nat} {a : Addr} {args : List PV} {k : TS} {r : PV} {k' : TS} (ob : Params → Obj) (body : List Stmt) (vm : List (Str × PV)) (o : Out)
    (hbind : ∀ F vs, VRs X.t F args vs → ∃ bs, peek (KK X.w) ⟨X.p, X.w.params⟩ (bindArgs (fdOf (ob X.w.params)) ⟨vs, []⟩) = some bs ∧ BVR X.t F vm bs)
    (hkinds : ∀ L, Kinds (callEnvC (fdOf (ob X.w.params)) L a) vm)
    (hb : ∀ L A, Room A n → Ex X (callEnvC (fdOf (ob X.w.params)) L a) A vm none k (execs body (callEnvC (fdOf (ob X.w.params)) L a)) o) (hr : OutR o r k')
    (hk : (KK X.w).lookup a = some (ob X.w.params) := by kernel_rfl) (hd : (ob X.w.params).data = .func (fdOf (ob X.w.params)) := by kernel_rfl) (hbody : (fdOf (ob X.w.params)).body = .stmts body := by kernel_rfl)
    (hcd : codeIn (KK X.w) (fdOf (ob X.w.params)).code (fdOf (ob X.w.params)).qualname = true := by kernel_rfl)
    (hclo : (fdOf (ob X.w.params)).closure = [] := by kernel_rfl) (hgl : (fdOf (ob X.w.params)).globals = mainGlobals := by kernel_rfl) (hbu : (fdOf (ob X.w.params)).builtins = builtinsNs := by kernel_rfl)
    (hco : (fdOf (ob X.w.params)).scope.isCoroutine = false := by kernel_rfl) (hgen : (fdOf (ob X.w.params)).scope.isGenerator = false := by kernel_rfl) (hkd : (fdOf (ob X.w.params)).scope.kind = .function := by kernel_rfl) : FSpec X (n + 1) (.ref a) args k r k' :=
  fspec_def vm o hk hd hbody hcd hclo hgl hbu hkinds hbind hb hr hco hgen hkd
section
variable {P : Prop} {B : List Value → Option (List (Str × Value))}
theorem bind1 {x : Str} {p : PV} (h : ∀ v, B [v] = some [(x, v)]) : ∀ F vs, VRs X.t F [p] vs → ∃ bs, B vs = some bs ∧ BVR X.t F [(x, p)] bs := fun F vs hv => by
  obtain ⟨v, rfl, h1⟩ := hv.one_inv
  exact ⟨_, h v, ⟨v, [], rfl, h1, rfl⟩⟩
theorem bind2 {x y : Str} {p q : PV} (h : ∀ v u, B [v, u] = some [(x, v), (y, u)]) : ∀ F vs, VRs X.t F [p, q] vs → ∃ bs, B vs = some bs ∧ BVR X.t F [(x, p), (y, q)] bs := fun F vs hv => by
  obtain ⟨v, u, rfl, h1, h2⟩ := hv.two_inv
  exact ⟨_, h v u, ⟨v, _, rfl, h1, u, [], rfl, h2, rfl⟩⟩
theorem bind3 {x y z : Str} {p q r : PV} (h : ∀ v u w, B [v, u, w] = some [(x, v), (y, u), (z, w)]) : ∀ F vs, VRs X.t F [p, q, r] vs → ∃ bs, B vs = some bs ∧ BVR X.t F [(x, p), (y, q), (z, r)] bs := fun F vs hv => by
  obtain ⟨v, u, w, rfl, h1, h2, h3⟩ := hv.three_inv
  exact ⟨_, h v u w, ⟨v, _, rfl, h1, u, _, rfl, h2, w, [], rfl, h3, rfl⟩⟩
end
theorem kinds1 {x : Str} {p : PV} (h : env.kindOf x = some .local) : Kinds env [(x, p)] := ⟨.inl h, rfl, trivial⟩
theorem cells_some {o : Option Addr} (h : o.isSome = true) : o.isSome = true := h
theorem fsum {n m : Nat} {f args k r k'} (h : FSpec X n f args k r k') (l : n ≤ m) (R : Room A m) : CSpec X A f args k r k' := (h.le l).c R
end
section
variable {X : Cx} {env : Env} {A : Around} {vm : List (Str × PV)} {gl : Option (Str × List PV)} {k : TS}

noncomputable def s_max : Str := ⟨#[109, 97, 120]⟩
noncomputable def s_chr : Str := ⟨#[99, 104, 114]⟩
noncomputable def s_ord : Str := ⟨#[111, 114, 100]⟩
noncomputable def s_bytes : Str := ⟨#[98, 121, 116, 101, 115]⟩
noncomputable def s_list : Str := ⟨#[108, 105, 115, 116]⟩
noncomputable def s_dict : Str := ⟨#[100, 105, 99, 116]⟩
noncomputable def s_range : Str := ⟨#[114, 97, 110, 103, 101]⟩
noncomputable def s_sorted : Str := ⟨#[115, 111, 114, 116, 101, 100]⟩
noncomputable def s_str : Str := ⟨#[115, 116, 114]⟩
noncomputable def s_isinstance : Str := ⟨#[105, 115, 105, 110, 115, 116, 97, 110, 99, 101]⟩
theorem g_lower_code {pos : Pos} (hx : env.kindOf s_lower_code = some .globalImplicit := by kernel_rfl) : EvE X env A vm gl k (.Name s_lower_code pos) (.glob (.ref 105)) k := ev_gf (by kernel_rfl) hx (by decide)
theorem c_lower_code : Callee X (.ref 105) := callee_fn (fd := fdOf (o_150 X.w.params)) (o := o_150 X.w.params) (by kernel_rfl) (by kernel_rfl)
theorem g_lower_text {pos : Pos} (hx : env.kindOf s_lower_text = some .globalImplicit := by kernel_rfl) : EvE X env A vm gl k (.Name s_lower_text pos) (.glob (.ref 110)) k := ev_gf (by kernel_rfl) hx (by decide)
theorem c_lower_text : Callee X (.ref 110) := callee_fn (fd := fdOf (o_155 X.w.params)) (o := o_155 X.w.params) (by kernel_rfl) (by kernel_rfl)
theorem g_line_spans {pos : Pos} (hx : env.kindOf s_line_spans = some .globalImplicit := by kernel_rfl) : EvE X env A vm gl k (.Name s_line_spans pos) (.glob (.ref 118)) k := ev_gf (by kernel_rfl) hx (by decide)
theorem c_line_spans : Callee X (.ref 118) := callee_fn (fd := fdOf (o_163 X.w.params)) (o := o_163 X.w.params) (by kernel_rfl) (by kernel_rfl)
theorem g_line_at {pos : Pos} (hx : env.kindOf s_line_at = some .globalImplicit := by kernel_rfl) : EvE X env A vm gl k (.Name s_line_at pos) (.glob (.ref 159)) k := ev_gf (by kernel_rfl) hx (by decide)
theorem c_line_at : Callee X (.ref 159) := callee_fn (fd := fdOf (o_206 X.w.params)) (o := o_206 X.w.params) (by kernel_rfl) (by kernel_rfl)
theorem g_is_name {pos : Pos} (hx : env.kindOf s_is_name = some .globalImplicit := by kernel_rfl) : EvE X env A vm gl k (.Name s_is_name pos) (.glob (.ref 166)) k := ev_gf (by kernel_rfl) hx (by decide)
theorem c_is_name : Callee X (.ref 166) := callee_fn (fd := fdOf (o_213 X.w.params)) (o := o_213 X.w.params) (by kernel_rfl) (by kernel_rfl)
theorem g_rows_of {pos : Pos} (hx : env.kindOf s_rows_of = some .globalImplicit := by kernel_rfl) : EvE X env A vm gl k (.Name s_rows_of pos) (.glob (.ref 173)) k := ev_gf (by kernel_rfl) hx (by decide)
theorem c_rows_of : Callee X (.ref 173) := callee_fn (fd := fdOf (o_220 X.w.params)) (o := o_220 X.w.params) (by kernel_rfl) (by kernel_rfl)
theorem g_without_words {pos : Pos} (hx : env.kindOf s_without_words = some .globalImplicit := by kernel_rfl) : EvE X env A vm gl k (.Name s_without_words pos) (.glob (.ref 185)) k := ev_gf (by kernel_rfl) hx (by decide)
theorem c_without_words : Callee X (.ref 185) := callee_fn (fd := fdOf (o_234 X.w.params)) (o := o_234 X.w.params) (by kernel_rfl) (by kernel_rfl)
theorem g_is_sound {pos : Pos} (hx : env.kindOf s_is_sound = some .globalImplicit := by kernel_rfl) : EvE X env A vm gl k (.Name s_is_sound pos) (.glob (.ref 192)) k := ev_gf (by kernel_rfl) hx (by decide)
theorem c_is_sound : Callee X (.ref 192) := callee_fn (fd := fdOf (o_241 X.w.params)) (o := o_241 X.w.params) (by kernel_rfl) (by kernel_rfl)
theorem g_write_fields {pos : Pos} (hx : env.kindOf s_write_fields = some .globalImplicit := by kernel_rfl) : EvE X env A vm gl k (.Name s_write_fields pos) (.glob (.ref 197)) k := ev_gf (by kernel_rfl) hx (by decide)
theorem c_write_fields : Callee X (.ref 197) := callee_fn (fd := fdOf (o_246 X.w.params)) (o := o_246 X.w.params) (by kernel_rfl) (by kernel_rfl)
theorem g_escaped_octets {pos : Pos} (hx : env.kindOf s_escaped_octets = some .globalImplicit := by kernel_rfl) : EvE X env A vm gl k (.Name s_escaped_octets pos) (.glob (.ref 239)) k := ev_gf (by kernel_rfl) hx (by decide)
theorem c_escaped_octets : Callee X (.ref 239) := callee_fn (fd := fdOf (o_288 X.w.params)) (o := o_288 X.w.params) (by kernel_rfl) (by kernel_rfl)
theorem g_is_token_code {pos : Pos} (hx : env.kindOf s_is_token_code = some .globalImplicit := by kernel_rfl) : EvE X env A vm gl k (.Name s_is_token_code pos) (.glob (.ref 293)) k := ev_gf (by kernel_rfl) hx (by decide)
theorem c_is_token_code : Callee X (.ref 293) := callee_fn (fd := fdOf (o_346 X.w.params)) (o := o_346 X.w.params) (by kernel_rfl) (by kernel_rfl)
theorem g_is_token {pos : Pos} (hx : env.kindOf s_is_token = some .globalImplicit := by kernel_rfl) : EvE X env A vm gl k (.Name s_is_token pos) (.glob (.ref 298)) k := ev_gf (by kernel_rfl) hx (by decide)
theorem c_is_token : Callee X (.ref 298) := callee_fn (fd := fdOf (o_353 X.w.params)) (o := o_353 X.w.params) (by kernel_rfl) (by kernel_rfl)
theorem g_is_plain_params {pos : Pos} (hx : env.kindOf s_is_plain_params = some .globalImplicit := by kernel_rfl) : EvE X env A vm gl k (.Name s_is_plain_params pos) (.glob (.ref 303)) k := ev_gf (by kernel_rfl) hx (by decide)
theorem c_is_plain_params : Callee X (.ref 303) := callee_fn (fd := fdOf (o_358 X.w.params)) (o := o_358 X.w.params) (by kernel_rfl) (by kernel_rfl)
theorem g_quoted_rows {pos : Pos} (hx : env.kindOf s_quoted_rows = some .globalImplicit := by kernel_rfl) : EvE X env A vm gl k (.Name s_quoted_rows pos) (.glob (.ref 327)) k := ev_gf (by kernel_rfl) hx (by decide)
theorem c_quoted_rows : Callee X (.ref 327) := callee_fn (fd := fdOf (o_382 X.w.params)) (o := o_382 X.w.params) (by kernel_rfl) (by kernel_rfl)
theorem g_param_rows {pos : Pos} (hx : env.kindOf s_param_rows = some .globalImplicit := by kernel_rfl) : EvE X env A vm gl k (.Name s_param_rows pos) (.glob (.ref 337)) k := ev_gf (by kernel_rfl) hx (by decide)
theorem c_param_rows : Callee X (.ref 337) := callee_fn (fd := fdOf (o_392 X.w.params)) (o := o_392 X.w.params) (by kernel_rfl) (by kernel_rfl)
theorem g_write_params {pos : Pos} (hx : env.kindOf s_write_params = some .globalImplicit := by kernel_rfl) : EvE X env A vm gl k (.Name s_write_params pos) (.glob (.ref 342)) k := ev_gf (by kernel_rfl) hx (by decide)
theorem c_write_params : Callee X (.ref 342) := callee_fn (fd := fdOf (o_397 X.w.params)) (o := o_397 X.w.params) (by kernel_rfl) (by kernel_rfl)
theorem g_write_kind {pos : Pos} (hx : env.kindOf s_write_kind = some .globalImplicit := by kernel_rfl) : EvE X env A vm gl k (.Name s_write_kind pos) (.glob (.ref 347)) k := ev_gf (by kernel_rfl) hx (by decide)
theorem c_write_kind : Callee X (.ref 347) := callee_fn (fd := fdOf (o_402 X.w.params)) (o := o_402 X.w.params) (by kernel_rfl) (by kernel_rfl)
theorem g_is_seven_bit {pos : Pos} (hx : env.kindOf s_is_seven_bit = some .globalImplicit := by kernel_rfl) : EvE X env A vm gl k (.Name s_is_seven_bit pos) (.glob (.ref 522)) k := ev_gf (by kernel_rfl) hx (by decide)
theorem c_is_seven_bit : Callee X (.ref 522) := callee_fn (fd := fdOf (o_585 X.w.params)) (o := o_585 X.w.params) (by kernel_rfl) (by kernel_rfl)
theorem g_choose_encoding {pos : Pos} (hx : env.kindOf s_choose_encoding = some .globalImplicit := by kernel_rfl) : EvE X env A vm gl k (.Name s_choose_encoding pos) (.glob (.ref 529)) k := ev_gf (by kernel_rfl) hx (by decide)
theorem c_choose_encoding : Callee X (.ref 529) := callee_fn (fd := fdOf (o_592 X.w.params)) (o := o_592 X.w.params) (by kernel_rfl) (by kernel_rfl)
theorem g_in_encoding {pos : Pos} (hx : env.kindOf s_in_encoding = some .globalImplicit := by kernel_rfl) : EvE X env A vm gl k (.Name s_in_encoding pos) (.glob (.ref 536)) k := ev_gf (by kernel_rfl) hx (by decide)
theorem c_in_encoding : Callee X (.ref 536) := callee_fn (fd := fdOf (o_599 X.w.params)) (o := o_599 X.w.params) (by kernel_rfl) (by kernel_rfl)
theorem g_begins_line {pos : Pos} (hx : env.kindOf s_begins_line = some .globalImplicit := by kernel_rfl) : EvE X env A vm gl k (.Name s_begins_line pos) (.glob (.ref 541)) k := ev_gf (by kernel_rfl) hx (by decide)
theorem c_begins_line : Callee X (.ref 541) := callee_fn (fd := fdOf (o_606 X.w.params)) (o := o_606 X.w.params) (by kernel_rfl) (by kernel_rfl)
theorem g_boundary_for {pos : Pos} (hx : env.kindOf s_boundary_for = some .globalImplicit := by kernel_rfl) : EvE X env A vm gl k (.Name s_boundary_for pos) (.glob (.ref 546)) k := ev_gf (by kernel_rfl) hx (by decide)
theorem c_boundary_for : Callee X (.ref 546) := callee_fn (fd := fdOf (o_611 X.w.params)) (o := o_611 X.w.params) (by kernel_rfl) (by kernel_rfl)
theorem g_check_fields {pos : Pos} (hx : env.kindOf s_check_fields = some .globalImplicit := by kernel_rfl) : EvE X env A vm gl k (.Name s_check_fields pos) (.glob (.ref 553)) k := ev_gf (by kernel_rfl) hx (by decide)
theorem c_check_fields : Callee X (.ref 553) := callee_fn (fd := fdOf (o_618 X.w.params)) (o := o_618 X.w.params) (by kernel_rfl) (by kernel_rfl)
theorem g_head_octets {pos : Pos} (hx : env.kindOf s_head_octets = some .globalImplicit := by kernel_rfl) : EvE X env A vm gl k (.Name s_head_octets pos) (.glob (.ref 558)) k := ev_gf (by kernel_rfl) hx (by decide)
theorem c_head_octets : Callee X (.ref 558) := callee_fn (fd := fdOf (o_623 X.w.params)) (o := o_623 X.w.params) (by kernel_rfl) (by kernel_rfl)
theorem g_leaf_octets {pos : Pos} (hx : env.kindOf s_leaf_octets = some .globalImplicit := by kernel_rfl) : EvE X env A vm gl k (.Name s_leaf_octets pos) (.glob (.ref 565)) k := ev_gf (by kernel_rfl) hx (by decide)
theorem c_leaf_octets : Callee X (.ref 565) := callee_fn (fd := fdOf (o_630 X.w.params)) (o := o_630 X.w.params) (by kernel_rfl) (by kernel_rfl)
theorem g_joined_bodies {pos : Pos} (hx : env.kindOf s_joined_bodies = some .globalImplicit := by kernel_rfl) : EvE X env A vm gl k (.Name s_joined_bodies pos) (.glob (.ref 570)) k := ev_gf (by kernel_rfl) hx (by decide)
theorem c_joined_bodies : Callee X (.ref 570) := callee_fn (fd := fdOf (o_635 X.w.params)) (o := o_635 X.w.params) (by kernel_rfl) (by kernel_rfl)
theorem g_many_octets {pos : Pos} (hx : env.kindOf s_many_octets = some .globalImplicit := by kernel_rfl) : EvE X env A vm gl k (.Name s_many_octets pos) (.glob (.ref 575)) k := ev_gf (by kernel_rfl) hx (by decide)
theorem c_many_octets : Callee X (.ref 575) := callee_fn (fd := fdOf (o_640 X.w.params)) (o := o_640 X.w.params) (by kernel_rfl) (by kernel_rfl)
theorem g_letter_octets {pos : Pos} (hx : env.kindOf s_letter_octets = some .globalImplicit := by kernel_rfl) : EvE X env A vm gl k (.Name s_letter_octets pos) (.glob (.ref 582)) k := ev_gf (by kernel_rfl) hx (by decide)
theorem c_letter_octets : Callee X (.ref 582) := callee_fn (fd := fdOf (o_647 X.w.params)) (o := o_647 X.w.params) (by kernel_rfl) (by kernel_rfl)
theorem g_built {pos : Pos} (hx : env.kindOf s_built = some .globalImplicit := by kernel_rfl) : EvE X env A vm gl k (.Name s_built pos) (.glob (.ref 589)) k := ev_gf (by kernel_rfl) hx (by decide)
theorem c_built : Callee X (.ref 589) := callee_fn (fd := fdOf (o_654 X.w.params)) (o := o_654 X.w.params) (by kernel_rfl) (by kernel_rfl)
theorem g_letter_whole {pos : Pos} (hx : env.kindOf s_letter_whole = some .globalImplicit := by kernel_rfl) : EvE X env A vm gl k (.Name s_letter_whole pos) (.glob (.ref 596)) k := ev_gf (by kernel_rfl) hx (by decide)
theorem c_letter_whole : Callee X (.ref 596) := callee_fn (fd := fdOf (o_661 X.w.params)) (o := o_661 X.w.params) (by kernel_rfl) (by kernel_rfl)
theorem g__law_draw {pos : Pos} (hx : env.kindOf s__law_draw = some .globalImplicit := by kernel_rfl) : EvE X env A vm gl k (.Name s__law_draw pos) (.glob (.ref 613)) k := ev_gf (by kernel_rfl) hx (by decide)
theorem c__law_draw : Callee X (.ref 613) := callee_fn (fd := fdOf (o_682 X.w.params)) (o := o_682 X.w.params) (by kernel_rfl) (by kernel_rfl)
theorem g__law_fields {pos : Pos} (hx : env.kindOf s__law_fields = some .globalImplicit := by kernel_rfl) : EvE X env A vm gl k (.Name s__law_fields pos) (.glob (.ref 620)) k := ev_gf (by kernel_rfl) hx (by decide)
theorem c__law_fields : Callee X (.ref 620) := callee_fn (fd := fdOf (o_689 X.w.params)) (o := o_689 X.w.params) (by kernel_rfl) (by kernel_rfl)
theorem g__law_leaf {pos : Pos} (hx : env.kindOf s__law_leaf = some .globalImplicit := by kernel_rfl) : EvE X env A vm gl k (.Name s__law_leaf pos) (.glob (.ref 627)) k := ev_gf (by kernel_rfl) hx (by decide)
theorem c__law_leaf : Callee X (.ref 627) := callee_fn (fd := fdOf (o_696 X.w.params)) (o := o_696 X.w.params) (by kernel_rfl) (by kernel_rfl)
theorem g__law_piece {pos : Pos} (hx : env.kindOf s__law_piece = some .globalImplicit := by kernel_rfl) : EvE X env A vm gl k (.Name s__law_piece pos) (.glob (.ref 634)) k := ev_gf (by kernel_rfl) hx (by decide)
theorem c__law_piece : Callee X (.ref 634) := callee_fn (fd := fdOf (o_703 X.w.params)) (o := o_703 X.w.params) (by kernel_rfl) (by kernel_rfl)
theorem g__law_number {pos : Pos} (hx : env.kindOf s__law_number = some .globalImplicit := by kernel_rfl) : EvE X env A vm gl k (.Name s__law_number pos) (.glob (.ref 639)) k := ev_gf (by kernel_rfl) hx (by decide)
theorem c__law_number : Callee X (.ref 639) := callee_fn (fd := fdOf (o_708 X.w.params)) (o := o_708 X.w.params) (by kernel_rfl) (by kernel_rfl)
theorem g__law_many {pos : Pos} (hx : env.kindOf s__law_many = some .globalImplicit := by kernel_rfl) : EvE X env A vm gl k (.Name s__law_many pos) (.glob (.ref 644)) k := ev_gf (by kernel_rfl) hx (by decide)
theorem c__law_many : Callee X (.ref 644) := callee_fn (fd := fdOf (o_713 X.w.params)) (o := o_713 X.w.params) (by kernel_rfl) (by kernel_rfl)
theorem g_Field {pos : Pos} (hx : env.kindOf s_Field = some .globalImplicit := by kernel_rfl) : EvE X env A vm gl k (.Name s_Field pos) (.glob (.ref 148)) k := ev_gf (by kernel_rfl) hx (by decide)
theorem g_Kind {pos : Pos} (hx : env.kindOf s_Kind = some .globalImplicit := by kernel_rfl) : EvE X env A vm gl k (.Name s_Kind pos) (.glob (.ref 282)) k := ev_gf (by kernel_rfl) hx (by decide)
theorem g_Leaf {pos : Pos} (hx : env.kindOf s_Leaf = some .globalImplicit := by kernel_rfl) : EvE X env A vm gl k (.Name s_Leaf pos) (.glob (.ref 443)) k := ev_gf (by kernel_rfl) hx (by decide)
theorem g_Many {pos : Pos} (hx : env.kindOf s_Many = some .globalImplicit := by kernel_rfl) : EvE X env A vm gl k (.Name s_Many pos) (.glob (.ref 476)) k := ev_gf (by kernel_rfl) hx (by decide)
theorem g_Letter822 {pos : Pos} (hx : env.kindOf s_Letter822 = some .globalImplicit := by kernel_rfl) : EvE X env A vm gl k (.Name s_Letter822 pos) (.glob (.ref 513)) k := ev_gf (by kernel_rfl) hx (by decide)
theorem g_len {pos : Pos} (hx : env.kindOf s_len = some .globalImplicit := by kernel_rfl) : EvE X env A vm gl k (.Name s_len pos) (.glob (.builtin "len")) k := ev_bi (by kernel_rfl) (by decide) rfl hx (by decide)
theorem g_max {pos : Pos} (hx : env.kindOf s_max = some .globalImplicit := by kernel_rfl) : EvE X env A vm gl k (.Name s_max pos) (.glob (.builtin "max")) k := ev_bi (by kernel_rfl) (by decide) rfl hx (by decide)
theorem g_chr {pos : Pos} (hx : env.kindOf s_chr = some .globalImplicit := by kernel_rfl) : EvE X env A vm gl k (.Name s_chr pos) (.glob (.builtin "chr")) k := ev_bi (by kernel_rfl) (by decide) rfl hx (by decide)
theorem g_ord {pos : Pos} (hx : env.kindOf s_ord = some .globalImplicit := by kernel_rfl) : EvE X env A vm gl k (.Name s_ord pos) (.glob (.builtin "ord")) k := ev_bi (by kernel_rfl) (by decide) rfl hx (by decide)
theorem g_bytes {pos : Pos} (hx : env.kindOf s_bytes = some .globalImplicit := by kernel_rfl) : EvE X env A vm gl k (.Name s_bytes pos) (.glob (.type "bytes")) k := ev_bi (by kernel_rfl) (by decide) rfl hx (by decide)
theorem g_list {pos : Pos} (hx : env.kindOf s_list = some .globalImplicit := by kernel_rfl) : EvE X env A vm gl k (.Name s_list pos) (.glob (.type "list")) k := ev_bi (by kernel_rfl) (by decide) rfl hx (by decide)
theorem g_dict {pos : Pos} (hx : env.kindOf s_dict = some .globalImplicit := by kernel_rfl) : EvE X env A vm gl k (.Name s_dict pos) (.glob (.type "dict")) k := ev_bi (by kernel_rfl) (by decide) rfl hx (by decide)
theorem g_range {pos : Pos} (hx : env.kindOf s_range = some .globalImplicit := by kernel_rfl) : EvE X env A vm gl k (.Name s_range pos) (.glob (.type "range")) k := ev_bi (by kernel_rfl) (by decide) rfl hx (by decide)
theorem g_sorted {pos : Pos} (hx : env.kindOf s_sorted = some .globalImplicit := by kernel_rfl) : EvE X env A vm gl k (.Name s_sorted pos) (.glob (.builtin "sorted")) k := ev_bi (by kernel_rfl) (by decide) rfl hx (by decide)
theorem g_str {pos : Pos} (hx : env.kindOf s_str = some .globalImplicit := by kernel_rfl) : EvE X env A vm gl k (.Name s_str pos) (.glob (.type "str")) k := ev_bi (by kernel_rfl) (by decide) rfl hx (by decide)
theorem g_isinstance {pos : Pos} (hx : env.kindOf s_isinstance = some .globalImplicit := by kernel_rfl) : EvE X env A vm gl k (.Name s_isinstance pos) (.glob (.builtin "isinstance")) k := ev_bi (by kernel_rfl) (by decide) rfl hx (by decide)
end
section
variable {X : Cx} {env : Env} {A : Around} {vm : List (Str × PV)} {gl : Option (Str × List PV)} {k : TS}
theorem vrs_nil {t : Addr} {F : FMap} : VRs t F [] [] := by simp only [VRs]
theorem vr_tuph {a : Addr} {ob : Obj} {vs : List Value} {n : Nat} {l : List PV} (hk : (KK X.w).lookup a = some ob) (hc : ob.cls = .type "tuple") (hd : ob.data = .seq vs.toArray n) (h : VRs X.t X.H.get? l vs) : VR X.t X.H.get? (.tup l) (.ref a) := by
  simp only [VR]
  exact ⟨a, vs, rfl, ⟨ob, X.inK _ _ hk, hc, n, hd⟩, h⟩
theorem vr_dict0h {a : Addr} {ob : Obj} {n : Nat} (hk : (KK X.w).lookup a = some ob) (hS : (a == sysModules) = false) (hc : ob.ExactDict) (hd : ob.data = .dict #[] n) : VR X.t X.H.get? (.dict X.w.params [] []) (.ref a) := by
  simp only [VR]
  exact ⟨a, ob, #[], [], n, rfl, X.inK _ _ hk, hS, hc, hd, .nil, fun e he => by simp at he, rfl⟩
theorem vr_dict1h {a : Addr} {ob : Obj} {n : Nat} {x : Str} {tk : Tok} {v : Value} {p : PV} (hk : (KK X.w).lookup a = some ob) (hS : (a == sysModules) = false) (hc : ob.ExactDict) (hd : ob.data = .dict #[K0 X.w.params x tk v] n) (h : VR X.t X.H.get? p v) : VR X.t X.H.get? (.dict X.w.params [x] [p]) (.ref a) := by
  simp only [VR]
  refine ⟨a, ob, _, [v], n, rfl, X.inK _ _ hk, hS, hc, hd, .cons .nil, fun e he => ?_, .cons h vrs_nil⟩
  have : e = K0 X.w.params x tk v := by simpa using he
  subst this
  exact ⟨x, tk, rfl, rfl⟩
theorem gv {x : Str} {pos : Pos} {p : PV} {v : Value} (hg : nsFind (gEs X.w.params) x = some v) (hv : VR X.t X.H.get? p v) (hx : env.kindOf x = some .globalImplicit) (hd : (x == ("__debug__" : Str)) = false := by decide) : EvE X env A vm gl k (.Name x pos) p k := ev_glob hx (X.mg_eq hg) hv hd
theorem g_WHITE {pos : Pos} (hx : env.kindOf s_WHITE = some .globalImplicit := by kernel_rfl) : EvE X env A vm gl k (.Name s_WHITE pos) (.tup ([32, 9].map .int)) k :=
  gv (v := .ref 119) (by kernel_rfl) (vr_tuph (ob := o_164 X.w.params) (n := 0) (by kernel_rfl) rfl rfl (.cons vr_int (.cons vr_int vrs_nil))) hx
theorem g_NEVER_ESCAPED {pos : Pos} (hx : env.kindOf s_NEVER_ESCAPED = some .globalImplicit := by kernel_rfl) : EvE X env A vm gl k (.Name s_NEVER_ESCAPED pos) (.tup ([0, 10, 13].map .int)) k :=
  gv (v := .ref 232) (by kernel_rfl) (vr_tuph (ob := o_281 X.w.params) (n := 0) (by kernel_rfl) rfl rfl (.cons vr_int (.cons vr_int (.cons vr_int vrs_nil)))) hx
noncomputable def ownWords : List Str := [s_contentQtype, s_contentQtransferQencoding, s_mimeQversion]
theorem g_OWN_WORDS {pos : Pos} (hx : env.kindOf s_OWN_WORDS = some .globalImplicit := by kernel_rfl) : EvE X env A vm gl k (.Name s_OWN_WORDS pos) (.tup (ownWords.map .str)) k :=
  gv (v := .ref 398) (by kernel_rfl) (vr_tuph (ob := o_455 X.w.params) (n := 0) (by kernel_rfl) rfl rfl (.cons vr_str (.cons vr_str (.cons vr_str vrs_nil)))) hx
theorem g_CRLF {pos : Pos} (hx : env.kindOf s_CRLF = some .globalImplicit := by kernel_rfl) : EvE X env A vm gl k (.Name s_CRLF pos) (.bytes [13, 10]) k :=
  gv (v := .bytes #[13, 10] 309) (by kernel_rfl) vr_bytes hx
theorem g_RETURN {pos : Pos} (hx : env.kindOf s_RETURN = some .globalImplicit := by kernel_rfl) : EvE X env A vm gl k (.Name s_RETURN pos) (.int 13) k :=
  gv (v := .int 13 311) (by kernel_rfl) vr_int hx
noncomputable def barred : List UInt8 := [40, 41, 60, 62, 64, 44, 59, 58, 92, 34, 47, 91, 93, 63, 61]
theorem g_BARRED {pos : Pos} (hx : env.kindOf s_BARRED = some .globalImplicit := by kernel_rfl) : EvE X env A vm gl k (.Name s_BARRED pos) (.bytes barred) k :=
  gv (v := .bytes #[40, 41, 60, 62, 64, 44, 59, 58, 92, 34, 47, 91, 93, 63, 61] 520) (by kernel_rfl) vr_bytes hx
theorem g_BARRED_IN_NAMES {pos : Pos} (hx : env.kindOf s_BARRED_IN_NAMES = some .globalImplicit := by kernel_rfl) : EvE X env A vm gl k (.Name s_BARRED_IN_NAMES pos) (.bytes [42, 39, 37]) k :=
  gv (v := .bytes #[42, 39, 37] 522) (by kernel_rfl) vr_bytes hx
theorem g_MOST_NAME {pos : Pos} (hx : env.kindOf s_MOST_NAME = some .globalImplicit := by kernel_rfl) : EvE X env A vm gl k (.Name s_MOST_NAME pos) (.int 40) k :=
  gv (v := .int 40 528) (by kernel_rfl) vr_int hx
theorem g_MOST_PARTS {pos : Pos} (hx : env.kindOf s_MOST_PARTS = some .globalImplicit := by kernel_rfl) : EvE X env A vm gl k (.Name s_MOST_PARTS pos) (.int 1000) k :=
  gv (v := .int 1000 530) (by kernel_rfl) vr_int hx
theorem g_WIDTH {pos : Pos} (hx : env.kindOf s_WIDTH = some .globalImplicit := by kernel_rfl) : EvE X env A vm gl k (.Name s_WIDTH pos) (.int 78) k :=
  gv (v := .int 78 526) (by kernel_rfl) vr_int hx
theorem g_PLAIN_ENCODING {pos : Pos} (hx : env.kindOf s_PLAIN_ENCODING = some .globalImplicit := by kernel_rfl) : EvE X env A vm gl k (.Name s_PLAIN_ENCODING pos) (.str s_7bit) k :=
  gv (v := .str s_7bit 669) (by kernel_rfl) vr_str hx
theorem g_MOST_LINE {pos : Pos} (hx : env.kindOf s_MOST_LINE = some .globalImplicit := by kernel_rfl) : EvE X env A vm gl k (.Name s_MOST_LINE pos) (.int 998) k :=
  gv (v := .int 998 751) (by kernel_rfl) vr_int hx
theorem g_BOUNDARY_LEAD {pos : Pos} (hx : env.kindOf s_BOUNDARY_LEAD = some .globalImplicit := by kernel_rfl) : EvE X env A vm gl k (.Name s_BOUNDARY_LEAD pos) (.str s_Q_part) k :=
  gv (v := .str s_Q_part 757) (by kernel_rfl) vr_str hx
noncomputable def lawOctets : List (List UInt8) := [[], [120], [120, 13, 10], [45, 45, 61, 95, 112, 97, 114, 116, 48], [97, 13, 10, 45, 45, 61, 95, 112, 97, 114, 116, 49, 13, 10], [45, 45, 61, 95, 112, 97, 114, 116, 50, 120, 13, 10, 45, 45, 61, 95, 112, 97, 114, 116, 48]]
theorem g__law_octets {pos : Pos} (hx : env.kindOf s__law_octets = some .globalImplicit := by kernel_rfl) : EvE X env A vm gl k (.Name s__law_octets pos) (.tup (lawOctets.map .bytes)) k :=
  gv (v := .ref 606) (by kernel_rfl) (vr_tuph (ob := o_671 X.w.params) (n := 0) (by kernel_rfl) rfl rfl (.cons vr_bytes (.cons vr_bytes (.cons vr_bytes (.cons vr_bytes (.cons vr_bytes (.cons vr_bytes vrs_nil))))))) hx
noncomputable def lawKinds (P : Params) : List (List PV) := [[.str s_text, .str s_plain, .dict P [] [], .bytes [116, 101, 120, 116, 47, 112, 108, 97, 105, 110]], [.str s_image, .str s_png, .dict P [] [], .bytes [105, 109, 97, 103, 101, 47, 112, 110, 103]],
  [.str s_text, .str s_x, .dict P [s_a] [.str s_b], .bytes [116, 101, 120, 116, 47, 120, 59, 13, 10, 32, 97, 61, 98]], [.str s_application, .str s_y, .dict P [s_n] [.str s_aQb], .bytes [97, 112, 112, 108, 105, 99, 97, 116, 105, 111, 110, 47, 121, 59, 13, 10, 32, 110, 61, 34, 97, 32, 98, 34]]]
theorem g__law_kinds {pos : Pos} (hx : env.kindOf s__law_kinds = some .globalImplicit := by kernel_rfl) : EvE X env A vm gl k (.Name s__law_kinds pos) (.tup ((lawKinds X.w.params).map .tup)) k :=
  gv (v := .ref 605) (by kernel_rfl) (vr_tuph (ob := o_670 X.w.params) (n := 0) (by kernel_rfl) rfl rfl (.cons
    (vr_tuph (ob := o_663 X.w.params) (n := 0) (by kernel_rfl) rfl rfl (.cons vr_str (.cons vr_str (.cons (vr_dict0h (ob := o_664 X.w.params) (n := 0) (by kernel_rfl) rfl ⟨rfl, rfl, rfl⟩ rfl) (.cons vr_bytes vrs_nil))))) (.cons
    (vr_tuph (ob := o_665 X.w.params) (n := 0) (by kernel_rfl) rfl rfl (.cons vr_str (.cons vr_str (.cons (vr_dict0h (ob := o_664 X.w.params) (n := 0) (by kernel_rfl) rfl ⟨rfl, rfl, rfl⟩ rfl) (.cons vr_bytes vrs_nil))))) (.cons
    (vr_tuph (ob := o_667 X.w.params) (n := 0) (by kernel_rfl) rfl rfl (.cons vr_str (.cons vr_str (.cons (vr_dict1h (ob := o_666 X.w.params) (n := 1) (by kernel_rfl) rfl ⟨rfl, rfl, rfl⟩ rfl vr_str) (.cons vr_bytes vrs_nil))))) (.cons
    (vr_tuph (ob := o_669 X.w.params) (n := 0) (by kernel_rfl) rfl rfl (.cons vr_str (.cons vr_str (.cons (vr_dict1h (ob := o_668 X.w.params) (n := 1) (by kernel_rfl) rfl ⟨rfl, rfl, rfl⟩ rfl vr_str) (.cons vr_bytes vrs_nil))))) vrs_nil))))) hx

/- comprehensions over one list -/
theorem sub_one {x : Str} {p : PV} (h : vm.lookup x = none := by rfl) : Sub vm ((x, p) :: vm) := fun n q e => by
  rw [List.lookup_cons]
  cases hb : n == x with
  | true => have : n = x := beq_iff_eq.mp hb
            subst this; rw [h] at e; cases e
  | false => exact e
theorem comp_map {α : Type} {elt iter tgt : PySem.Expr} (f g : α → PV) (vm₁ : α → List (Str × PV)) : ∀ (l : List α), (∀ a ∈ l, Asg X env A false none tgt (f a) vm (vm₁ a)) → (∀ a ∈ l, Sub vm (vm₁ a)) → (∀ a ∈ l, EvE X env A (vm₁ a) none k elt (g a) k) →
    CompEx X env A elt [⟨tgt, iter, [], 0⟩] (l.map f) vm k (l.map g) k
  | [], _, _, _ => .stop
  | a :: l, h1, h2, h3 => .take (h1 a List.mem_cons_self) (h2 a List.mem_cons_self) ⟨rfl, rfl⟩ (h3 a List.mem_cons_self)
      (comp_map f g vm₁ l (fun b hb => h1 b (List.mem_cons_of_mem _ hb)) (fun b hb => h2 b (List.mem_cons_of_mem _ hb)) fun b hb => h3 b (List.mem_cons_of_mem _ hb))
theorem comp_filter {α : Type} {elt iter tgt te : PySem.Expr} (f g : α → PV) (t : α → Bool) (vm₁ : α → List (Str × PV)) : ∀ (l : List α), (∀ a ∈ l, Asg X env A false none tgt (f a) vm (vm₁ a)) → (∀ a ∈ l, Sub vm (vm₁ a)) → (∀ a ∈ l, EvB X env A (vm₁ a) none k te (t a) k) →
    (∀ a ∈ l, t a = true → EvE X env A (vm₁ a) none k elt (g a) k) → CompEx X env A elt [⟨tgt, iter, [te], 0⟩] (l.map f) vm k ((l.filter t).map g) k
  | [], _, _, _, _ => .stop
  | a :: l, h1, h2, h3, h4 => by
    have ih := comp_filter (iter := iter) f g t vm₁ l (fun b hb => h1 b (List.mem_cons_of_mem _ hb)) (fun b hb => h2 b (List.mem_cons_of_mem _ hb)) (fun b hb => h3 b (List.mem_cons_of_mem _ hb)) fun b hb => h4 b (List.mem_cons_of_mem _ hb)
    have ht := h3 a List.mem_cons_self
    rw [List.map_cons, List.filter_cons]
    cases hc : t a with
    | true =>
      rw [hc] at ht
      rw [if_pos rfl, List.map_cons]
      exact .take (h1 a List.mem_cons_self) (h2 a List.mem_cons_self) ht (h4 a List.mem_cons_self hc) ih
    | false =>
      rw [hc] at ht
      rw [if_neg Bool.false_ne_true]
      exact .skip (h1 a List.mem_cons_self) (h2 a List.mem_cons_self) ht ih
theorem one_gen {g : Comprehension} (h : g.is_async = 0) : ∀ c ∈ [g], c.is_async = 0 := fun c hc => by rw [List.mem_singleton.mp hc]; exact h
/-- a comprehension of one clause that takes nothing from outside -/
theorem ev_comp1 {elt tgt iter : PySem.Expr} {ifs : List PySem.Expr} {scope : Scope} {pos : Pos} {p : PV} {items rs : List PV} {k₁ k' : TS} (h : EvE X env A vm gl k iter p k₁) (hi : IterOf X A p items)
    (hc : ∀ C, CompEx X (compEnvC scope [] C env) A elt [⟨tgt, iter, ifs, 0⟩] items [] k₁ rs k') (hsz : rs.length ≤ sizeLine)
    (hclos : closureFor scope env = pure [] := by rfl) (hok : scopeOk scope = true := by kernel_rfl) (hs : ∀ x, foldedSetIterable iter env x = pure x := by intro _; rfl) :
    EvE X env A vm gl k (.ListComp elt [⟨tgt, iter, ifs, 0⟩] scope pos) (.list rs) k' :=
  ev_comp (cl := []) (vmc := []) h (fun _ => turns_one) (one_gen rfl) hclos hok trivial trivial hi hc hsz hs
end
section
variable {X : Cx} {env : Env} {A : Around} {vm vm' : List (Str × PV)} {gl : Option (Str × List PV)} {k k₁ k₂ k₃ k₄ k' : TS} {n : Nat} {own : Bool}
theorem a0 : AEv X env A vm gl k [] [] k := .nil
theorem a1 {e : PySem.Expr} {p : PV} (h : EvE X env A vm gl k e p k₁) (hs : starEach [e] env = (false, eval e env) :: starEach [] env := by rfl) : AEv X env A vm gl k [e] [p] k₁ := .cons h hs .nil
theorem a2 {e e' : PySem.Expr} {p p' : PV} (h : EvE X env A vm gl k e p k₁) (h' : EvE X env A vm gl k₁ e' p' k₂) (hs : starEach [e, e'] env = (false, eval e env) :: starEach [e'] env := by rfl) (hs' : starEach [e'] env = (false, eval e' env) :: starEach [] env := by rfl) : AEv X env A vm gl k [e, e'] [p, p'] k₂ := .cons h hs (a1 h' hs')
theorem a3 {e e' e'' : PySem.Expr} {p p' p'' : PV} (h : EvE X env A vm gl k e p k₁) (h' : EvE X env A vm gl k₁ e' p' k₂) (h'' : EvE X env A vm gl k₂ e'' p'' k₃) (hs : starEach [e, e', e''] env = (false, eval e env) :: starEach [e', e''] env := by rfl) (hs' : starEach [e', e''] env = (false, eval e' env) :: starEach [e''] env := by rfl)
    (hs'' : starEach [e''] env = (false, eval e'' env) :: starEach [] env := by rfl) : AEv X env A vm gl k [e, e', e''] [p, p', p''] k₃ := .cons h hs (a2 h' h'' hs' hs'')
/-- a call with one argument, of a builtin -/
theorem call1 {fn e : PySem.Expr} {pos : Pos} {v : Value} {p r : PV} (hf : EvE X env A vm gl k fn (.glob v) k₁) (hc : Callee X v) (ha : EvE X env A vm gl k₁ e p k₂) (hs : CSpec X A v [p] k₂ r k₃)
    (he : starEach [e] env = (false, eval e env) :: starEach [] env := by rfl) (hsh : eval (.Call fn [e] [] pos) env = (eval fn env >>= fun u => callWith pos u [] (backTo pos (starEach [e] env)) []) := by rfl) : EvE X env A vm gl k (.Call fn [e] [] pos) r k₃ := ev_call hf hc (a1 ha he) hs hsh
theorem call2 {fn e e' : PySem.Expr} {pos : Pos} {v : Value} {p p' r : PV} (hf : EvE X env A vm gl k fn (.glob v) k₁) (hc : Callee X v) (ha : EvE X env A vm gl k₁ e p k₂) (ha' : EvE X env A vm gl k₂ e' p' k₃) (hs : CSpec X A v [p, p'] k₃ r k₄)
    (he : starEach [e, e'] env = (false, eval e env) :: starEach [e'] env := by rfl) (he' : starEach [e'] env = (false, eval e' env) :: starEach [] env := by rfl) (hsh : eval (.Call fn [e, e'] [] pos) env = (eval fn env >>= fun u => callWith pos u [] (backTo pos (starEach [e, e'] env)) []) := by rfl) : EvE X env A vm gl k (.Call fn [e, e'] [] pos) r k₄ := ev_call hf hc (a2 ha ha' he he') hs hsh
theorem call3 {fn e e' e'' : PySem.Expr} {pos : Pos} {v : Value} {p p' p'' r : PV} (hf : EvE X env A vm gl k fn (.glob v) k) (hc : Callee X v) (ha : EvE X env A vm gl k e p k₁) (ha' : EvE X env A vm gl k₁ e' p' k₂) (ha'' : EvE X env A vm gl k₂ e'' p'' k₃) (hs : CSpec X A v [p, p', p''] k₃ r k₄)
    (he : starEach [e, e', e''] env = (false, eval e env) :: starEach [e', e''] env := by rfl) (he' : starEach [e', e''] env = (false, eval e' env) :: starEach [e''] env := by rfl) (he'' : starEach [e''] env = (false, eval e'' env) :: starEach [] env := by rfl)
    (hsh : eval (.Call fn [e, e', e''] [] pos) env = (eval fn env >>= fun u => callWith pos u [] (backTo pos (starEach [e, e', e''] env)) []) := by rfl) : EvE X env A vm gl k (.Call fn [e, e', e''] [] pos) r k₄ := ev_call hf hc (a3 ha ha' ha'' he he' he'') hs hsh
theorem Sub.nil : Sub [] vm := fun _ _ e => nomatch e
theorem Sub.cons {x : Str} {p : PV} {r : List (Str × PV)} (h : vm.lookup x = some p) (hr : Sub r vm) : Sub ((x, p) :: r) vm := fun m q e => by
  rw [List.lookup_cons] at e
  cases hb : m == x with
  | true => have : m = x := beq_iff_eq.mp hb
            subst this; rw [hb] at e; cases e; exact h
  | false => rw [hb] at e; exact hr m q e
theorem Sub.refl : Sub vm vm := fun _ _ e => e
theorem sub_tl {x : Str} {p : PV} (h : vm.lookup x = none := by rfl) : Sub vm ((x, p) :: vm) := sub_one h
theorem ex_end (h : Sub vm' vm) : Ex X env A vm gl k (execs [] env) (.next vm' gl k) := ex_weaken ex_nil h
theorem cmap {α : Type} {elt iter tgt : PySem.Expr} {items rs : List PV} (l : List α) (f g : α → PV) (vm₁ : α → List (Str × PV)) (h1 : ∀ a ∈ l, Asg X env A false none tgt (f a) vm (vm₁ a)) (h2 : ∀ a ∈ l, Sub vm (vm₁ a)) (h3 : ∀ a ∈ l, EvE X env A (vm₁ a) none k elt (g a) k)
    (hi : items = l.map f := by rfl) (hr : rs = l.map g := by rfl) : CompEx X env A elt [⟨tgt, iter, [], 0⟩] items vm k rs k := by
  subst hi hr; exact comp_map f g vm₁ l h1 h2 h3
theorem cfilter {α : Type} {elt iter tgt te : PySem.Expr} {items rs : List PV} (l : List α) (f g : α → PV) (t : α → Bool) (vm₁ : α → List (Str × PV)) (h1 : ∀ a ∈ l, Asg X env A false none tgt (f a) vm (vm₁ a)) (h2 : ∀ a ∈ l, Sub vm (vm₁ a)) (h3 : ∀ a ∈ l, EvB X env A (vm₁ a) none k te (t a) k)
    (h4 : ∀ a ∈ l, t a = true → EvE X env A (vm₁ a) none k elt (g a) k) (hi : items = l.map f := by rfl) (hr : rs = (l.filter t).map g := by rfl) : CompEx X env A elt [⟨tgt, iter, [te], 0⟩] items vm k rs k := by
  subst hi hr; exact comp_filter f g t vm₁ l h1 h2 h3 h4
theorem ev_methE {e e0 : PySem.Expr} {name : Str} {apos pos : Pos} {es : List PySem.Expr} {p : PV} {ps : List PV} {g : Value} {r : PV} (heq : e = .Call (.Attribute e0 name apos) es [] pos) (h : EvE X env A vm gl k e0 p k₁) (hm : MethOf X A p name g) (hc : Callee X g) (ha : AEv X env A vm gl k₁ es ps k₂) (hs : CSpec X A g (p :: ps) k₂ r k₃)
    (hl : es.length < 30 := by decide) (hln : methodCallPos true e0 env apos pos = pure pos := by rfl) (hb : attributeBase e0 name env (eval e0 env) = eval e0 env := by rfl) : EvE X env A vm gl k e r k₃ := heq ▸ ev_meth h hm hc ha hs hl hln hb
noncomputable def s_find : Str := ⟨#[102, 105, 110, 100]⟩
noncomputable def s_split : Str := ⟨#[115, 112, 108, 105, 116]⟩
theorem m_sjoin {x : Str} : MethOf X A (.str x) s_join (.builtin "str.join") := meth_str (n := "join") (by kernel_rfl) F.slot_str_join F.type_str_join
theorem m_bjoin {x : List UInt8} : MethOf X A (.bytes x) s_join (.builtin "bytes.join") := meth_bytes (n := "join") (by kernel_rfl) slot_join type_join
theorem m_find {x : List UInt8} : MethOf X A (.bytes x) s_find (.builtin "bytes.find") := meth_bytes (n := "find") (by kernel_rfl) slot_find type_find
theorem m_split {x : List UInt8} : MethOf X A (.bytes x) s_split (.builtin "bytes.split") := meth_bytes (n := "split") (by kernel_rfl) slot_split type_split
theorem tuple_lenW (l : Addr) (items : Array Value) (n : Nat) (dd : Option Addr) (sl : Array (Option Value)) :
    Meets (Builtin.«tuple.__len__» ⟨[.ref l], []⟩) (fun _ R s => s.heap.get? l = some { cls := .type "tuple", dict := dd, data := .seq items n, slots := sl } ∧ R (.ok (.ret (Value.int (items.size : Int) s.toks))) { s with heap := s.heap, toks := s.toks + 1 }) :=
  .of_wp fun prog w A R s h => by
    obtain ⟨hp, g, d, tk, os⟩ := s; obtain ⟨hl, h⟩ := h; have f1 := AutoSeq1.idx_int; have f2 := AutoSeq1.sub_tuple_tuple; have f3 := AutoSeq1.sub_list_list; have f4 := AutoSeq1.sub_tuple_list; have f5 := AutoSeq1.sub_list_tuple
    wp_walk using wpAny_loadPart' hl; exact ⟨_, rfl, h⟩
theorem len_t {l : List PV} (h : l.length ≤ 16777216) : CSpec X A (.builtin "len") [.tup l] k (.int l.length) k := by
  intro s Fz vs bb hvs Q E q
  obtain ⟨v, rfl, hv⟩ := hvs.one_inv
  simp only [VR] at hv
  obtain ⟨a, us, rfl, ⟨⟨cls, dd, data, sl⟩, ho, hc, m, hd⟩, hus⟩ := hv
  simp only at hc hd
  subst hc hd
  have hn := hus.length
  refine call_len_meets ⟨_, bb.now _ _ ho, rfl⟩ F.slot_tuple_len F.entry_tuple_len (F.args_tuple_len_1 _) (tuple_lenW a us.toArray m dd sl) (by omega) (by simp; omega) (fun _ hq => ⟨bb.now _ _ ho, hq⟩) (q _ _ Fz (BS.toks bb _) ?_)
  rw [show ((us.toArray.size : Nat) : Int) = (l.length : Int) by simp; omega]; exact vr_int
end
noncomputable abbrev Fd := List UInt8 × List UInt8
noncomputable abbrev kindPV (top sub : Str) (params : PV) : PV := .inst 282 [s_top, s_sub, s_params] [.str top, .str sub, params]
noncomputable abbrev fieldPV (f : Fd) : PV := .inst 148 [s_name, s_raw] [.bytes f.1, .bytes f.2]
noncomputable abbrev leafPV (kind : PV) (o : List UInt8) (fs : PV) : PV := .inst 443 [s_kind, s_octets, s_fields] [kind, .bytes o, fs]
noncomputable abbrev manyPV (sub : Str) (ps : List PV) (fs : PV) : PV := .inst 476 [s_sub, s_pieces, s_fields] [.str sub, .list ps, fs]
noncomputable abbrev letterPV (p fs : PV) : PV := .inst 513 [s_piece, s_fields] [p, fs]
noncomputable def lowN (c : Nat) : Nat := if 65 ≤ c ∧ c ≤ 90 then c + 32 else c
noncomputable def tokC (c : Nat) : Bool := decide ((32 : Int) < c) && decide ((c : Int) < 127) && !barred.contains (toB c)
section
variable {X : Cx} {env : Env} {A : Around} {vm : List (Str × PV)} {gl : Option (Str × List PV)} {k k' : TS} {n : Nat}
theorem f_lower_code {c : Nat} : FSpec X (n + 1) (.ref 105) [.int c] k (.int (lowN c)) k :=
  fspec o_150 (sBody (stm 16)) [(s_code, .int c)] (.ret (.int (lowN c)) k) (bind1 fun v => by kernel_rfl) (fun L => kinds1 (by kernel_rfl))
    (fun L A R => ex_stop (ex_ret (ev_ifexp (c := decide (65 ≤ (c : Int)) && decide ((c : Int) ≤ 90)) (evb_chain ev_int ev_nm cmp_lei (fun _ => ev_int) (fun _ => cmp_lei))
      (fun h => (ev_bin ev_nm ev_int bin_addi).cast (by simp at h; rw [lowN, if_pos (by omega)]; rfl)) (fun h => (ev_nm).cast (by simp at h; rw [lowN, if_neg (by omega)]))))) ⟨rfl, rfl⟩
theorem lowN_lt {c : Nat} (h : c < 1000) : lowN c < 1100 := by unfold lowN; split <;> omega
noncomputable def lowS (x : Str) : Str := ⟨(x.cps.toList.map lowN).toArray⟩
theorem f_lower_text {x : Str} (hc : ∀ c ∈ x.cps.toList, c < 1000) (hl : x.cps.toList.length ≤ 1000000) : FSpec X (n + 2) (.ref 110) [.str x] k (.str (lowS x)) k :=
  fspec o_155 (sBody (stm 17)) [(s_text, .str x)] (.ret (.str (lowS x)) k) (bind1 fun v => by kernel_rfl) (fun L => kinds1 (by kernel_rfl))
    (fun L A R => ex_stop (ex_ret (ev_methE rfl ev_str m_sjoin callee_val
      (a1 (ev_comp1 (rs := signs (x.cps.toList.map lowN)) ev_nm (iter_str R.hh) (fun C => cmap x.cps.toList (fun c : Nat => .str ⟨#[c]⟩) (fun c => .str ⟨#[lowN c]⟩) (fun c => [(s_sign, .str ⟨#[c]⟩)]) (fun c _ => asg_name (by kernel_rfl)) (fun c _ => sub_tl)
          (fun c h => (call1 g_chr callee_val (call1 g_lower_code c_lower_code (call1 g_ord callee_val ev_nm ord_c) (fsum (n := 1) f_lower_code (by omega) R)) (chr_i (by omega) (by have := lowN_lt (hc c h); omega))).cast (by simp)) rfl (by unfold signs; rw [List.map_map]; rfl)) (by simp [signs, sizeLine]; simp at hl; omega))) (join_s (by simpa using hl))))) ⟨rfl, rfl⟩
/- a kind's own words -/
theorem f_is_multi {top sub : Str} {ps : PV} : FSpec X (n + 1) (.ref 265) [kindPV top sub ps] k (.bool (top.cps.toList == [109, 117, 108, 116, 105, 112, 97, 114, 116])) k :=
  fspec o_318 (sBody (mth 51 2)) [(s_self, kindPV top sub ps)] (.ret _ k) (bind1 fun v => by kernel_rfl) (fun L => kinds1 (by kernel_rfl))
    (fun L A R => ex_stop (ex_ret (ev_cmp (ev_attr (i := 0) ev_nm (by kernel_rfl) rfl rfl (by kernel_rfl)) ev_str cmp_eqs))) ⟨rfl, rfl⟩
theorem f_is_letter {top sub : Str} {ps : PV} : FSpec X (n + 1) (.ref 272) [kindPV top sub ps] k (.bool ((top.cps.toList == [109, 101, 115, 115, 97, 103, 101]) && (sub.cps.toList == [114, 102, 99, 56, 50, 50]))) k :=
  fspec o_325 (sBody (mth 51 3)) [(s_self, kindPV top sub ps)] (.ret _ k) (bind1 fun v => by kernel_rfl) (fun L => kinds1 (by kernel_rfl))
    (fun L A R => ex_stop (ex_ret (ev_and2 (ev_cmp (ev_attr (i := 0) ev_nm (by kernel_rfl) rfl rfl (by kernel_rfl)) ev_str cmp_eqs) fun _ => ev_cmp (ev_attr (i := 1) ev_nm (by kernel_rfl) rfl rfl (by kernel_rfl)) ev_str cmp_eqs))) ⟨rfl, rfl⟩
theorem f_is_text {top sub : Str} {ps : PV} : FSpec X (n + 1) (.ref 279) [kindPV top sub ps] k (.bool (top.cps.toList == [116, 101, 120, 116])) k :=
  fspec o_332 (sBody (mth 51 4)) [(s_self, kindPV top sub ps)] (.ret _ k) (bind1 fun v => by kernel_rfl) (fun L => kinds1 (by kernel_rfl))
    (fun L A R => ex_stop (ex_ret (ev_cmp (ev_attr (i := 0) ev_nm (by kernel_rfl) rfl rfl (by kernel_rfl)) ev_str cmp_eqs))) ⟨rfl, rfl⟩
/- tokens -/
theorem f_is_token_code {c : Nat} (h : c < 256) : FSpec X (n + 1) (.ref 293) [.int c] k (.bool (tokC c)) k :=
  fspec o_346 (sBody (stm 52)) [(s_code, .int c)] (.ret (.bool (tokC c)) k) (bind1 fun v => by kernel_rfl) (fun L => kinds1 (by kernel_rfl))
    (fun L A R => ex_stop (ex_ret ((ev_and2 (ev_chain ev_int ev_nm cmp_lti (fun _ => ev_int) (fun _ => cmp_lti)) fun _ => ev_cmp ev_nm g_BARRED (notin_bytes (by omega) (by omega))).cast rfl))) ⟨rfl, rfl⟩
end
section
variable {X : Cx} {env : Env} {A : Around} {vm : List (Str × PV)} {gl : Option (Str × List PV)} {k k' : TS} {n : Nat}
theorem mk_class {C fI : Addr} {args : List PV} (R : Room A n) (ob : Params → Obj) (body : List Stmt) (vm : List (Str × PV)) (l : List (Str × Str)) (rs : List PV)
    (hbind : ∀ F vs x, VRs X.t F args vs → ∃ bs, peek (KK X.w) ⟨X.p, X.w.params⟩ (bindArgs (fdOf (ob X.w.params)) ⟨.ref x :: vs, []⟩) = some ((s_self, .ref x) :: bs) ∧ BVR X.t F vm bs)
    (hkinds : ∀ L, KindsL (callEnvC (fdOf (ob X.w.params)) L fI) ((s_self, .none) :: vm))
    (hb : ∀ L, InitB (callEnvC (fdOf (ob X.w.params)) L fI) s_self body l) (hl : ∀ L, ∀ p ∈ l, (callEnvC (fdOf (ob X.w.params)) L fI).kindOf p.2 = some .local ∧ (p.2 == ("__debug__" : Str)) = false)
    (hvals : l.map (fun p => vm.lookup p.2) = rs.map some) (hlen : l.length ≤ 1000)
    (hc : clsOk (KK X.w) C fI = true := by kernel_rfl) (htk : takers (KK X.w) C l = true := by kernel_rfl) (hfr : freshKeys [] l = true := by kernel_rfl)
    (hk : (KK X.w).lookup fI = some (ob X.w.params) := by kernel_rfl) (hd : (ob X.w.params).data = .func (fdOf (ob X.w.params)) := by kernel_rfl) (hbody : (fdOf (ob X.w.params)).body = .stmts body := by kernel_rfl)
    (hcd : codeIn (KK X.w) (fdOf (ob X.w.params)).code (fdOf (ob X.w.params)).qualname = true := by kernel_rfl)
    (hclo : (fdOf (ob X.w.params)).closure = [] := by kernel_rfl) (hgl : (fdOf (ob X.w.params)).globals = mainGlobals := by kernel_rfl) (hbu : (fdOf (ob X.w.params)).builtins = builtinsNs := by kernel_rfl)
    (hco : (fdOf (ob X.w.params)).scope.isCoroutine = false := by kernel_rfl) (hgen : (fdOf (ob X.w.params)).scope.isGenerator = false := by kernel_rfl) (hkd : (fdOf (ob X.w.params)).scope.kind = .function := by kernel_rfl) : CSpec X A (.ref C) args k (.inst C (l.map (·.1)) rs) k :=
  cspec_make R s_self vm l rs hc hk hd hbody hcd hclo hgl hbu hkinds hbind hb hl hvals htk hfr hlen (by decide) hco hgen hkd
theorem forall2 {α : Type} {P : α → Prop} {a b : α} (ha : P a) (hb : P b) : ∀ x ∈ [a, b], P x := by intro x hx; simp at hx; rcases hx with rfl | rfl <;> assumption
theorem forall3 {α : Type} {P : α → Prop} {a b c : α} (ha : P a) (hb : P b) (hc : P c) : ∀ x ∈ [a, b, c], P x := by intro x hx; simp at hx; rcases hx with rfl | rfl | rfl <;> assumption
theorem mbind2 {B : Addr → List Value → Option (List (Str × Value))} {x y : Str} {p q : PV} (h : ∀ s v u, B s [v, u] = some [(s_self, .ref s), (x, v), (y, u)]) : ∀ F vs (a : Addr), VRs X.t F [p, q] vs → ∃ bs, B a vs = some ((s_self, .ref a) :: bs) ∧ BVR X.t F [(x, p), (y, q)] bs := fun F vs a hv => by
  obtain ⟨v, u, rfl, h1, h2⟩ := hv.two_inv
  exact ⟨_, h _ v u, ⟨v, _, rfl, h1, u, [], rfl, h2, rfl⟩⟩
theorem mbind3 {B : Addr → List Value → Option (List (Str × Value))} {x y z : Str} {p q r : PV} (h : ∀ s v u w, B s [v, u, w] = some [(s_self, .ref s), (x, v), (y, u), (z, w)]) : ∀ F vs (a : Addr), VRs X.t F [p, q, r] vs → ∃ bs, B a vs = some ((s_self, .ref a) :: bs) ∧ BVR X.t F [(x, p), (y, q), (z, r)] bs := fun F vs a hv => by
  obtain ⟨v, u, w, rfl, h1, h2, h3⟩ := hv.three_inv
  exact ⟨_, h _ v u w, ⟨v, _, rfl, h1, u, _, rfl, h2, w, [], rfl, h3, rfl⟩⟩
theorem c_Field : Callee X (.ref 148) := callee_k (by kernel_rfl)
theorem c_Kind : Callee X (.ref 282) := callee_k (by kernel_rfl)
theorem c_Leaf : Callee X (.ref 443) := callee_k (by kernel_rfl)
theorem c_Many : Callee X (.ref 476) := callee_k (by kernel_rfl)
theorem c_Letter : Callee X (.ref 513) := callee_k (by kernel_rfl)
theorem mk_Field {a b : List UInt8} (R : Room A n) : CSpec X A (.ref 148) [.bytes a, .bytes b] k (fieldPV (a, b)) k :=
  mk_class (fI := 133) R o_180 (sBody (mth 21 0)) [(s_name, .bytes a), (s_raw, .bytes b)] [(s_name, s_name), (s_raw, s_raw)] [.bytes a, .bytes b] (mbind2 fun s v u => by kernel_rfl) (fun L => ⟨by kernel_rfl, rfl, by kernel_rfl, rfl, by kernel_rfl, rfl, trivial⟩)
    (fun L => .cons rfl rfl rfl (.cons rfl rfl rfl .nil)) (fun L => forall2 ⟨by kernel_rfl, by decide⟩ ⟨by kernel_rfl, by decide⟩) rfl (by decide)
theorem mk_Kind {a b : Str} {p : PV} (R : Room A n) : CSpec X A (.ref 282) [.str a, .str b, p] k (kindPV a b p) k :=
  mk_class (fI := 253) R o_306 (sBody (mth 51 0)) [(s_top, .str a), (s_sub, .str b), (s_params, p)] [(s_top, s_top), (s_sub, s_sub), (s_params, s_params)] [.str a, .str b, p] (mbind3 fun s v u w => by kernel_rfl) (fun L => ⟨by kernel_rfl, rfl, by kernel_rfl, rfl, by kernel_rfl, rfl, by kernel_rfl, rfl, trivial⟩)
    (fun L => .cons rfl rfl rfl (.cons rfl rfl rfl (.cons rfl rfl rfl .nil))) (fun L => forall3 ⟨by kernel_rfl, by decide⟩ ⟨by kernel_rfl, by decide⟩ ⟨by kernel_rfl, by decide⟩) rfl (by decide)
theorem mk_Leaf {a : PV} {b : List UInt8} {p : PV} (R : Room A n) : CSpec X A (.ref 443) [a, .bytes b, p] k (leafPV a b p) k :=
  mk_class (fI := 426) R o_485 (sBody (mth 85 0)) [(s_kind, a), (s_octets, .bytes b), (s_fields, p)] [(s_kind, s_kind), (s_octets, s_octets), (s_fields, s_fields)] [a, .bytes b, p] (mbind3 fun s v u w => by kernel_rfl) (fun L => ⟨by kernel_rfl, rfl, by kernel_rfl, rfl, by kernel_rfl, rfl, by kernel_rfl, rfl, trivial⟩)
    (fun L => .cons rfl rfl rfl (.cons rfl rfl rfl (.cons rfl rfl rfl .nil))) (fun L => forall3 ⟨by kernel_rfl, by decide⟩ ⟨by kernel_rfl, by decide⟩ ⟨by kernel_rfl, by decide⟩) rfl (by decide)
theorem mk_Many {a : Str} {b : List PV} {p : PV} (R : Room A n) : CSpec X A (.ref 476) [.str a, .list b, p] k (manyPV a b p) k :=
  mk_class (fI := 463) R o_524 (sBody (mth 86 0)) [(s_sub, .str a), (s_pieces, .list b), (s_fields, p)] [(s_sub, s_sub), (s_pieces, s_pieces), (s_fields, s_fields)] [.str a, .list b, p] (mbind3 fun s v u w => by kernel_rfl) (fun L => ⟨by kernel_rfl, rfl, by kernel_rfl, rfl, by kernel_rfl, rfl, by kernel_rfl, rfl, trivial⟩)
    (fun L => .cons rfl rfl rfl (.cons rfl rfl rfl (.cons rfl rfl rfl .nil))) (fun L => forall3 ⟨by kernel_rfl, by decide⟩ ⟨by kernel_rfl, by decide⟩ ⟨by kernel_rfl, by decide⟩) rfl (by decide)
theorem mk_Letter {a p : PV} (R : Room A n) : CSpec X A (.ref 513) [a, p] k (letterPV a p) k :=
  mk_class (fI := 496) R o_559 (sBody (mth 87 0)) [(s_piece, a), (s_fields, p)] [(s_piece, s_piece), (s_fields, s_fields)] [a, p] (mbind2 fun s v u => by kernel_rfl) (fun L => ⟨by kernel_rfl, rfl, by kernel_rfl, rfl, by kernel_rfl, rfl, trivial⟩)
    (fun L => .cons rfl rfl rfl (.cons rfl rfl rfl .nil)) (fun L => forall2 ⟨by kernel_rfl, by decide⟩ ⟨by kernel_rfl, by decide⟩) rfl (by decide)
end
open Builtin in
theorem find_in {d sub : Array UInt8} {a e i : Nat} (h : Bytes.find? d sub a e = some i) : a ≤ i ∧ i + sub.size ≤ e := by
  unfold Bytes.find? at h
  have := List.mem_of_find?_eq_some h
  simp at this
  obtain ⟨j, hj, rfl⟩ := this
  omega
open Builtin in
noncomputable def lineAt (d : List UInt8) (a e : Nat) : Nat × Nat := match Bytes.find? d.toArray [10].toArray a e with
  | none => (e, e)
  | some s => if a < s ∧ (d.getD (s - 1) 0).toNat = 13 then (s - 1, s + 1) else (s, s + 1)
theorem lineAt_in {d : List UInt8} {a e : Nat} (h : a ≤ e) : a ≤ (lineAt d a e).1 ∧ (lineAt d a e).1 ≤ e ∧ (lineAt d a e).2 ≤ e ∧ ((lineAt d a e).1 = e ∨ a < (lineAt d a e).2) := by
  unfold lineAt
  split
  · simp; exact h
  · rename_i s hs
    obtain ⟨h1, h2⟩ := find_in hs
    simp at h2
    split <;> simp <;> omega
noncomputable def isTok (b : List UInt8) : Bool := decide ((b.length : Int) > 0) && (b.filter fun c => !tokC c.toNat).isEmpty
noncomputable def isPlain (cs : List Nat) : Bool := (cs.filter fun c : Nat => !(decide ((32 : Int) ≤ c) && decide ((c : Int) < 127))).isEmpty
noncomputable def wordOf (b : List UInt8) : Str := ⟨(b.map fun c => lowN c.toNat).toArray⟩
noncomputable def nameOk (c : UInt8) : Bool := !(decide ((c.toNat : Int) < 33) || (decide ((c.toNat : Int) > 126) || ((c.toNat : Int) == 58)))
section
variable {X : Cx} {env : Env} {A : Around} {vm : List (Str × PV)} {gl : Option (Str × List PV)} {k k' : TS} {n : Nat}
theorem for_each {α : Type} {tgt : PySem.Expr} {body : List Stmt} {items : List PV} (l : List α) (f : α → PV) (vm₁ : α → List (Str × PV)) (h1 : ∀ a ∈ l, Asg X env A true gl tgt (f a) vm (vm₁ a)) (h2 : ∀ a ∈ l, Ex X env A (vm₁ a) gl k (execs body env) (.next vm gl k))
    (hi : items = l.map f := by rfl) : ForEx X env A tgt body items vm gl k (.next vm gl k) := by
  subst hi
  induction l with
  | nil => exact .stop
  | cons a l ih => exact .turn (h1 a List.mem_cons_self) (h2 a List.mem_cons_self) (ih (fun b hb => h1 b (List.mem_cons_of_mem _ hb)) fun b hb => h2 b (List.mem_cons_of_mem _ hb))
theorem ex_ifr {t : PySem.Expr} {a rest : List Stmt} {pos : Pos} {c : Bool} {p : PV} {k₁ : TS} (h : EvB X env A vm gl k t c k₁) (ha : c = true → Ex X env A vm gl k₁ (execs a env) (.ret p k')) (hb : c = false → Ex X env A vm gl k₁ (execs rest env) (.ret p k')) : Ex X env A vm gl k (execs (.If t a [] pos :: rest) env) (.ret p k') := by
  cases c with
  | true => exact ex_stop (ex_if h (fun _ => ha rfl) (fun e => nomatch e))
  | false => exact ex_seq (ex_if h (fun e => nomatch e) (fun _ => ex_nil)) (hb rfl)
theorem ex_guard {t : PySem.Expr} {a rest : List Stmt} {pos : Pos} {o : Out} {k₁ : TS} (h : EvB X env A vm gl k t false k₁) (hb : Ex X env A vm gl k₁ (execs rest env) o) : Ex X env A vm gl k (execs (.If t a [] pos :: rest) env) o :=
  ex_seq (ex_if h (fun e => nomatch e) (fun _ => ex_nil)) hb
theorem fsz {α β : Type} {p : α → Bool} {f : α → β} {l : List α} (h : l.length ≤ 1000000) : ((l.filter p).map f).length ≤ sizeLine := by
  have := List.length_filter_le p l
  rw [List.length_map]
  unfold sizeLine
  omega
theorem gets_b {b : List UInt8} : GetsBy (.bytes b) "bytes" := rfl
theorem gets_l {b : List PV} : GetsBy (.list b) "list" := rfl
theorem gets_t {b : List PV} : GetsBy (.tup b) "tuple" := rfl
theorem u8_lt (c : UInt8) : c.toNat < 256 := c.toNat_lt
theorem f_is_token {b : List UInt8} (hz : b.length ≤ 1000000) : FSpec X (n + 2) (.ref 298) [.bytes b] k (.bool (isTok b)) k :=
  fspec o_353 (sBody (stm 53)) [(s_octets, .bytes b)] (.ret (.bool (isTok b)) k) (bind1 fun v => by kernel_rfl) (fun L => kinds1 (by kernel_rfl))
    (fun L A R => ex_stop (ex_ret ((ev_and2 (ev_cmp (call1 g_len callee_val ev_nm (len_b (by omega))) ev_int cmp_gti) fun _ =>
      ev_cmp (ev_comp1 ev_nm (iter_bytes R.hh) (fun C => cfilter b (fun c => .int c.toNat) (fun c => .int c.toNat) (fun c => !tokC c.toNat) (fun c => [(s_code, .int c.toNat)]) (fun c _ => asg_name (by kernel_rfl)) (fun c _ => sub_tl)
        (fun c _ => evb_not (evb_val (call1 g_is_token_code c_is_token_code ev_nm (fsum (n := 1) (f_is_token_code (u8_lt c)) (by omega) R)) tr_bool) rfl) (fun c _ _ => ev_nm))
        (fsz hz)) (ev_list a0) (cmp_eqnil (R.le (by omega)))).cast (by simp [isTok, Bool.and_comm])))) ⟨rfl, rfl⟩
theorem f_is_plain {cs : List Nat} (hz : cs.length ≤ 1000000) : FSpec X (n + 1) (.ref 303) [.str ⟨cs.toArray⟩] k (.bool (isPlain cs)) k :=
  fspec o_358 (sBody (stm 54)) [(s_text, .str ⟨cs.toArray⟩)] (.ret (.bool (isPlain cs)) k) (bind1 fun v => by kernel_rfl) (fun L => kinds1 (by kernel_rfl))
    (fun L A R => ex_stop (ex_ret ((ev_cmp (ev_comp1 ev_nm (iter_str R.hh) (fun C => cfilter cs (fun c => .str ⟨#[c]⟩) (fun c => .str ⟨#[c]⟩) (fun c => !(decide ((32 : Int) ≤ c) && decide ((c : Int) < 127))) (fun c => [(s_sign, .str ⟨#[c]⟩)]) (fun c _ => asg_name (by kernel_rfl)) (fun c _ => sub_tl)
        (fun c _ => evb_not (evb_chain ev_int (call1 g_ord callee_val ev_nm ord_c) cmp_lei (fun _ => ev_int) (fun _ => cmp_lti)) rfl) (fun c _ _ => ev_nm))
        (fsz hz)) (ev_list a0) (cmp_eqnil (R.le (by omega)))).cast (by simp [isPlain])))) ⟨rfl, rfl⟩
theorem f_word {f : Fd} (hz : f.1.length ≤ 1000000) : FSpec X (n + 3) (.ref 138) [fieldPV f] k (.str (wordOf f.1)) k :=
  fspec o_185 (sBody (mth 21 1)) [(s_self, fieldPV f)] (.ret (.str (wordOf f.1)) k) (bind1 fun v => by kernel_rfl) (fun L => kinds1 (by kernel_rfl))
    (fun L A R => ex_stop (ex_ret ((call1 g_lower_text c_lower_text (ev_methE rfl ev_str m_sjoin callee_val
      (a1 (ev_comp1 (rs := signs (f.1.map UInt8.toNat)) (ev_attr (i := 0) ev_nm (by kernel_rfl) rfl rfl (by kernel_rfl)) (iter_bytes R.hh) (fun C => cmap f.1 (fun c => .int c.toNat) (fun c => .str ⟨#[c.toNat]⟩) (fun c => [(s_code, .int c.toNat)]) (fun c _ => asg_name (by kernel_rfl)) (fun c _ => sub_tl)
        (fun c _ => (call1 g_chr callee_val ev_nm (chr_i (by omega) (by have := u8_lt c; omega))).cast (by simp)) rfl (by unfold signs; rw [List.map_map]; rfl)) (by simp [signs, sizeLine]; omega))) (join_s (by simpa using hz)))
      (fsum (n := 2) (f_lower_text (by intro c hc; simp at hc; obtain ⟨d, _, rfl⟩ := hc; have := u8_lt d; omega) (by simpa using hz)) (by omega) R)).cast (by simp [wordOf, lowS, Function.comp_def])))) ⟨rfl, rfl⟩
theorem f_is_name {b : List UInt8} (h : ∀ c ∈ b, nameOk c = true) (hz : b.length ≤ 1000000) : FSpec X (n + 1) (.ref 166) [.bytes b] k (.bool (decide ((b.length : Int) > 0))) k :=
  fspec o_213 (sBody (stm 23)) [(s_octets, .bytes b)] (.ret (.bool (decide ((b.length : Int) > 0))) k) (bind1 fun v => by kernel_rfl) (fun L => kinds1 (by kernel_rfl))
    (fun L A R => ex_seq (ex_for ev_nm (iter_bytes R.hh) (for_each b (fun c => .int c.toNat) (fun c => [(s_code, .int c.toNat), (s_octets, .bytes b)]) (fun c _ => asg_name (by kernel_rfl))
        (fun c hc => ex_seq (ex_if (c := false) ((evb_bool (evt_or (evb_cmp ev_nm ev_int cmp_lti) fun _ => evt_or (evb_cmp ev_nm ev_int cmp_gti) fun _ => evt_or (evb_cmp ev_nm ev_int cmp_eqi) fun _ => evt_or_nil)).cast (by have := h c hc; unfold nameOk at this; simpa using this)) (fun h => nomatch h) (fun _ => ex_nil)) (ex_end sub_tl))))
      (ex_stop (ex_ret (ev_cmp (call1 g_len callee_val ev_nm (len_b (by omega))) ev_int cmp_gti)))) ⟨rfl, rfl⟩
theorem f_line_at {d : List UInt8} {a e : Nat} (he : e ≤ d.length) (hz : d.length ≤ 1000000) : FSpec X (n + 1) (.ref 159) [.bytes d, .int a, .int e] k (.tup [.int (lineAt d a e).1, .int (lineAt d a e).2]) k :=
  fspec o_206 (sBody (stm 22)) [(s_data, .bytes d), (s_at, .int a), (s_end, .int e)] (.ret (.tup [.int (lineAt d a e).1, .int (lineAt d a e).2]) k) (bind3 fun v u w => by kernel_rfl) (fun L => ⟨.inl (by kernel_rfl), rfl, .inl (by kernel_rfl), rfl, .inl (by kernel_rfl), rfl, trivial⟩)
    (fun L A R => ex_seq (ex_assign (ev_meth ev_nm m_find callee_val (a3 ev_bytes ev_nm ev_nm) (find_b he)) (asg_name (by kernel_rfl))) (by
      cases hf : Builtin.Bytes.find? d.toArray [10].toArray a e with
      | none =>
        have hl : lineAt d a e = (e, e) := by unfold lineAt; rw [hf]
        have hb : findB d [10] a e = -1 := by unfold findB; rw [hf]
        rw [hl, hb]
        exact ex_stop (ex_if (c := true) ((evb_cmp ev_nm ev_int cmp_lti).cast (by simp)) (fun _ => ex_stop (ex_ret (ev_tuple (a2 ev_nm ev_nm)))) (fun h => nomatch h))
      | some s =>
        obtain ⟨h1, h2⟩ := find_in hf
        simp at h2
        have hl : lineAt d a e = if a < s ∧ (d.getD (s - 1) 0).toNat = 13 then (s - 1, s + 1) else (s, s + 1) := by unfold lineAt; rw [hf]
        have hb : findB d [10] a e = s := by unfold findB; rw [hf]
        rw [hl, hb]
        exact ex_guard ((evb_cmp ev_nm ev_int cmp_lti).cast (by simp)) (ex_ifr (evb_bool (evt_and (evb_cmp ev_nm ev_nm cmp_gti) fun h => evt_and (evb_cmp (ev_sub ev_nm (ev_bin ev_nm ev_int bin_subi) gets_b (item_bytes (i := (s : Int) - 1) (by simp at h; omega) (by simp at h; omega) (by omega))) ev_int cmp_eqi) fun _ => evt_and_nil))
          (fun h => ex_stop (ex_ret ((ev_tuple (a2 (ev_bin ev_nm ev_int bin_subi) (ev_bin ev_nm ev_int bin_addi))).cast (by
            simp only [Bool.and_eq_true, decide_eq_true_eq, beq_iff_eq, gt_iff_lt] at h
            have e : ((s : Int) - 1).toNat = s - 1 := by omega
            rw [e] at h
            have h1 := h.1
            rw [if_pos ⟨by omega, by have := h.2.1; omega⟩]; simp; omega))))
          (fun h => ex_stop (ex_ret ((ev_tuple (a2 ev_nm (ev_bin ev_nm ev_int bin_addi))).cast (by
            rw [if_neg]; rfl
            intro hc
            have e : ((s : Int) - 1).toNat = s - 1 := by omega
            rw [e, hc.2] at h
            simp [hc.1] at h))))))
    ) ⟨rfl, rfl⟩
end
noncomputable def rowsF : Nat → List UInt8 → Nat → List (List UInt8)
  | 0, _, _ => []
  | f + 1, raw, a => cut raw (some (a : Int)) (some ((lineAt raw a raw.length).1 : Int)) :: (if (lineAt raw a raw.length).1 = raw.length then [] else rowsF f raw (lineAt raw a raw.length).2)
noncomputable def rowsOf (raw : List UInt8) : List (List UInt8) := rowsF (raw.length + 1) raw 0
noncomputable def rowOk (r : List UInt8) : Bool := !(((r.length : Int) == 0) || ((!([32, 9].any fun i : Int => i == ((r.getD 0 0).toNat : Int))) || false))
noncomputable def soundB (f : Fd) : Bool := f.1.all nameOk && decide ((f.1.length : Int) > 0) && ((rowsOf f.2).drop 1).all rowOk
noncomputable def fieldB (f : Fd) : List UInt8 := f.1 ++ [58] ++ f.2 ++ [13, 10]
theorem rowsF_len (f : Nat) (raw : List UInt8) (a : Nat) : (rowsF f raw a).length ≤ f := by
  induction f generalizing a with
  | zero => simp [rowsF]
  | succ f ih => unfold rowsF; split <;> simp; have := ih (lineAt raw a raw.length).2; omega
theorem cut_one {α : Type} (l : List α) : cut l (some 1) none = l.drop 1 := by
  unfold cut
  have h : clipAt l.length 1 = min 1 l.length := by rw [clip_some (by omega)]; rfl
  simp only [Option.elim]
  rw [h]
  cases l with
  | nil => rfl
  | cons x l => simp
theorem bjoin_nil (l : List (List UInt8)) : bjoin [] l = l.flatten := by
  cases l with
  | nil => rfl
  | cons x r => rw [bjoin_flat]; simp
theorem sum_le {l : List Nat} {m : Nat} (h : ∀ x ∈ l, x ≤ m) : l.sum ≤ m * l.length := by
  induction l with
  | nil => simp
  | cons x l ih =>
    have h1 := h x List.mem_cons_self
    have h2 := ih fun y hy => h y (List.mem_cons_of_mem _ hy)
    simp [Nat.mul_add]; omega
theorem cut_len {α : Type} (l : List α) (a b : Option Int) : (cut l a b).length ≤ l.length := by unfold cut; simp; omega
section
variable {X : Cx} {env : Env} {A : Around} {vm : List (Str × PV)} {gl : Option (Str × List PV)} {k k' : TS} {n : Nat}
theorem gne {x y : Str} {l : List PV} (h : y ≠ x) : ∀ y' l', some (y, l) = some (y', l') → y' ≠ x := fun _ _ e => by cases e; exact h
theorem while_fold {σ : Type} {test : PySem.Expr} {body : List Stmt} (V : σ → List (Str × PV)) (G : σ → Option (Str × List PV)) (I : σ → Prop) (μ : σ → Nat) (r : PV) (k' : TS)
    (ht : ∀ s, I s → EvB X env A (V s) (G s) k test true k) (hb : ∀ s, I s → Ex X env A (V s) (G s) k (execs body env) (.ret r k') ∨ ∃ s', I s' ∧ μ s' < μ s ∧ Ex X env A (V s) (G s) k (execs body env) (.next (V s') (G s') k)) :
    ∀ s, I s → WhileEx X env A test body (V s) (G s) k (.ret r k') := by
  intro s
  induction h : μ s using Nat.strongRecOn generalizing s with
  | _ m ih =>
    intro hi
    rcases hb s hi with h1 | ⟨s', h1, h2, h3⟩
    · exact .ret (ht s hi) h1
    · exact .turn (ht s hi) h3 (ih (μ s') (h ▸ h2) s' rfl h1)
theorem f_rows_of {raw : List UInt8} (hz : raw.length ≤ 1000000) : FSpec X (n + 2) (.ref 173) [.bytes raw] k (.list ((rowsOf raw).map .bytes)) k :=
  fspec o_220 (sBody (stm 24)) [(s_raw, .bytes raw)] (.ret (.list ((rowsOf raw).map .bytes)) k) (bind1 fun v => by kernel_rfl) (fun L => kinds1 (by kernel_rfl))
    (fun L A R => ex_seq (ex_glist a0) (ex_seq (ex_assign ev_int (asg_name (by kernel_rfl) (gne (by decide)))) (ex_stop (ex_while (while_fold (fun s : Nat × List (List UInt8) => [(s_at, .int s.1), (s_raw, .bytes raw)]) (fun s => some (s_rows, s.2.map .bytes)) (fun s => s.1 ≤ raw.length ∧ s.2.length + (raw.length - s.1) ≤ 1000000 ∧ ∃ f, raw.length - s.1 < f ∧ s.2 ++ rowsF f raw s.1 = rowsOf raw)
      (fun s => raw.length - s.1) _ _ (fun s _ => evb_val ev_bool tr_bool) (fun s hs => by
        obtain ⟨a, acc⟩ := s
        obtain ⟨ha, hac, f, hf, he⟩ := hs
        simp only at ha hac hf he
        cases f with
        | zero => omega
        | succ f =>
        have hln := lineAt_in (d := raw) ha
        unfold rowsF at he
        by_cases hl : (lineAt raw a raw.length).1 = raw.length
        · left
          exact ex_seq (ex_assign (call3 g_line_at c_line_at ev_nm ev_nm (call1 g_len callee_val ev_nm (len_b (by omega))) (fsum (n := 1) (f_line_at (Nat.le_refl _) hz) (by omega) R)) (asg_tup R.hh (.cons (asg_name (by kernel_rfl) (gne (by decide))) (.cons (asg_name (by kernel_rfl) (gne (by decide))) .nil)))) (ex_seq (ex_append (ev_slice ev_nm (.some ev_nm) (.some ev_nm) gets_b (cut_bytes (by omega))) (by simp; omega)) (ex_stop (ex_if (c := true) ((evb_cmp ev_nm (call1 g_len callee_val ev_nm (len_b (by omega))) cmp_eqi).cast (by simp [hl])) (fun _ => (ex_freeze (by kernel_rfl) (ex_stop (ex_ret ev_nm))).cast (by rw [← he, if_pos hl]; simp)) (fun h => nomatch h))))
        · right
          rw [if_neg hl] at he
          refine ⟨((lineAt raw a raw.length).2, acc ++ [cut raw (some (a : Int)) (some ((lineAt raw a raw.length).1 : Int))]), ⟨hln.2.2.1, ?_, f, ?_, by simpa using he⟩, ?_, ?_⟩
          · simp; omega
          · simp only; omega
          · simp only; omega
          · exact ex_seq (ex_assign (call3 g_line_at c_line_at ev_nm ev_nm (call1 g_len callee_val ev_nm (len_b (by omega))) (fsum (n := 1) (f_line_at (Nat.le_refl _) hz) (by omega) R)) (asg_tup R.hh (.cons (asg_name (by kernel_rfl) (gne (by decide))) (.cons (asg_name (by kernel_rfl) (gne (by decide))) .nil)))) (ex_seq (ex_append (ev_slice ev_nm (.some ev_nm) (.some ev_nm) gets_b (cut_bytes (by omega))) (by simp; omega)) (ex_guard ((evb_cmp ev_nm (call1 g_len callee_val ev_nm (len_b (by omega))) cmp_eqi).cast (by simp [hl]; omega)) (ex_seq (ex_assign ev_nm (asg_name (by kernel_rfl) (gne (by decide)))) ((ex_end (Sub.cons lk0 (Sub.cons lk4 Sub.nil))).cast (by rw [List.map_append]; rfl)))))) (0, []) ⟨by simp, by simpa using hz, raw.length + 1, by simp, rfl⟩))))) ⟨rfl, rfl⟩
end
noncomputable def s_barred : Str := ⟨#[98, 97, 114, 114, 101, 100]⟩
theorem lenpos {r : List UInt8} (h : ((r.length : Int) == 0) = false) : (0 : Int) < r.length := by
  simp at h; have := List.length_pos_iff.mpr h; omega
theorem notT {b : Bool} (h : (!b) = true) : b = false := by simpa using h
section
variable {X : Cx} {env : Env} {A : Around} {vm : List (Str × PV)} {gl : Option (Str × List PV)} {k k' : TS} {n : Nat}
theorem f_is_sound {f : Fd} (h : soundB f = true) (hz : f.1.length ≤ 100000 ∧ f.2.length ≤ 100000) : FSpec X (n + 3) (.ref 192) [fieldPV f] k (.bool true) k :=
  fspec o_241 (sBody (stm 27)) [(s_field, fieldPV f)] (.ret (.bool true) k) (bind1 fun v => by kernel_rfl) (fun L => kinds1 (by kernel_rfl))
    (fun L A R => by
      unfold soundB at h
      simp only [Bool.and_eq_true, List.all_eq_true] at h
      obtain ⟨⟨h1, h2⟩, h3⟩ := h
      exact ex_guard (evb_not (evb_val (call1 g_is_name c_is_name (ev_attr (i := 0) ev_nm (by kernel_rfl) rfl rfl (by kernel_rfl)) (fsum (n := 1) (f_is_name h1 (by omega)) (by omega) R)) tr_bool) (by rw [h2]; rfl))
        (ex_seq (ex_for ((ev_slice (call1 g_rows_of c_rows_of (ev_attr (i := 1) ev_nm (by kernel_rfl) rfl rfl (by kernel_rfl)) (fsum (n := 2) (f_rows_of (by omega)) (by omega) R)) (.some ev_int) .none gets_l (cut_list (by
            have := rowsF_len (f.2.length + 1) f.2 0
            simp [rowsOf]; omega))).cast (by rw [cut_one])) (iter_list R.hh)
          (for_each ((rowsOf f.2).drop 1) .bytes (fun r => [(s_row, .bytes r), (s_field, fieldPV f)]) (fun c _ => asg_name (by kernel_rfl)) (fun r hr => by
            have h4 := h3 r hr
            have hl : r.length ≤ 100000 := by
              have := List.mem_of_mem_drop hr
              have key : ∀ (g a : Nat), ∀ r ∈ rowsF g f.2 a, r.length ≤ f.2.length := by
                intro g
                induction g with
                | zero => intro a r hr; simp [rowsF] at hr
                | succ g ih =>
                  intro a r hr
                  unfold rowsF at hr
                  rcases List.mem_cons.mp hr with rfl | hr
                  · exact cut_len _ _ _
                  · split at hr
                    · simp at hr
                    · exact ih _ r hr
              exact Nat.le_trans (key _ _ r this) hz.2
            exact ex_guard ((evb_bool (evt_or (evb_cmp (call1 g_len callee_val ev_nm (len_b (by omega))) ev_int cmp_eqi) fun h => evt_or (evb_cmp (ev_sub ev_nm ev_int gets_b (item_bytes (i := 0) (by omega) (lenpos h) (by omega))) g_WHITE notin_tupi) fun _ => evt_or_nil)).cast (notT h4)) (ex_end sub_tl)) (by rw [List.map_drop]))) (ex_stop (ex_ret ev_bool)))) ⟨rfl, rfl⟩
theorem fieldB_len (f : Fd) : (fieldB f).length = f.1.length + f.2.length + 3 := by unfold fieldB; simp; omega
set_option maxHeartbeats 4000000 in
theorem f_write_fields {fs : List Fd} (h : ∀ f ∈ fs, soundB f = true) (hz : ∀ f ∈ fs, (fieldB f).length ≤ 10000) (hl : fs.length ≤ 100) : FSpec X (n + 4) (.ref 197) [.list (fs.map fieldPV)] k (.bytes (fs.map fieldB).flatten) k :=
  fspec o_246 (sBody (stm 28)) [(s_fields, .list (fs.map fieldPV))] (.ret (.bytes (fs.map fieldB).flatten) k) (bind1 fun v => by kernel_rfl) (fun L => kinds1 (by kernel_rfl))
    (fun L A R => ex_seq (ex_for ev_nm (iter_list R.hh) (for_each fs fieldPV (fun f => [(s_field, fieldPV f), (s_fields, .list (fs.map fieldPV))]) (fun c _ => asg_name (by kernel_rfl)) (fun f hf =>
        ex_guard (evb_not (evb_val (call1 g_is_sound c_is_sound ev_nm (fsum (n := 3) (f_is_sound (h f hf) (by have := hz f hf; rw [fieldB_len] at this; omega)) (by omega) R)) tr_bool) rfl) (ex_end sub_tl))))
      (ex_stop (ex_ret ((ev_methE rfl ev_bytes m_bjoin callee_val (a1 (ev_comp1 (rs := (fs.map fieldB).map .bytes) ev_nm (iter_list R.hh) (fun C => cmap fs fieldPV (fun f => .bytes (fieldB f)) (fun f => [(s_field, fieldPV f)]) (fun c _ => asg_name (by kernel_rfl)) (fun c _ => sub_tl)
        (fun f hf => ev_bin (ev_bin (ev_bin (ev_attr (i := 0) ev_nm (by kernel_rfl) rfl rfl (by kernel_rfl)) ev_bytes (bin_addb (by have := hz f hf; rw [fieldB_len] at this; simp; omega))) (ev_attr (i := 1) ev_nm (by kernel_rfl) rfl rfl (by kernel_rfl)) (bin_addb (by have := hz f hf; rw [fieldB_len] at this; simp; omega))) g_CRLF (bin_addb (by have := hz f hf; rw [fieldB_len] at this; simp; omega))) rfl (by rw [List.map_map]; rfl)) (by simp [sizeLine]; omega)))
        (join_b (by
          have := sum_le (l := (fs.map fieldB).map List.length) (m := 10000) (by intro x hx; simp at hx; obtain ⟨a, b, hf, rfl⟩ := hx; exact hz _ hf)
          simp only [List.length_map] at this
          simp only [List.length_nil]; omega))).cast (by rw [bjoin_nil]))))) ⟨rfl, rfl⟩
end
section
variable {X : Cx} {env : Env} {A : Around} {vm vmc vm' : List (Str × PV)} {gl : Option (Str × List PV)} {k k₁ k' : TS} {n : Nat}
/-- a comprehension that takes names from outside -/
theorem ev_compC {elt tgt iter : PySem.Expr} {ifs : List PySem.Expr} {scope : Scope} {pos : Pos} {cl : List (Str × Addr)} {p : PV} {items rs : List PV} (h : EvE X env A vm gl k iter p k₁) (hi : IterOf X A p items) (hclos : closureFor scope env = pure cl) (hcl : SubC env.cells cl) (hcap : Cap vm env scope.names cl vmc)
    (hc : ∀ C, CompEx X (compEnvC scope cl C env) A elt [⟨tgt, iter, ifs, 0⟩] items vmc k₁ rs k') (hsz : rs.length ≤ sizeLine) (hok : scopeOk scope = true := by kernel_rfl) (hs : ∀ x, foldedSetIterable iter env x = pure x := by intro _; rfl) :
    EvE X env A vm gl k (.ListComp elt [⟨tgt, iter, ifs, 0⟩] scope pos) (.list rs) k' := ev_comp h (fun _ => turns_one) (one_gen rfl) hclos hok hcl hcap hi hc hsz hs
/-- a name gets a comprehension's list that takes nothing from outside -/
theorem ex_acomp {x : Str} {px apos : Pos} {elt tgt iter : PySem.Expr} {ifs : List PySem.Expr} {scope : Scope} {pos : Pos} {p : PV} {items rs : List PV} (h : EvE X env A vm gl k iter p k₁) (hi : IterOf X A p items) (hc : ∀ C, CompEx X (compEnvC scope [] C env) A elt [⟨tgt, iter, ifs, 0⟩] items [] k₁ rs k') (hsz : rs.length ≤ sizeLine)
    (ha : Asg X env A true gl (.Name x px) (.list rs) vm vm') (hclos : closureFor scope env = pure [] := by rfl) (hok : scopeOk scope = true := by kernel_rfl)
    (hsw : swapsWith (.ListComp elt [⟨tgt, iter, ifs, 0⟩] scope pos) (some (.Name x px)) apos.line env = pure true := by rfl) (hs : ∀ x, foldedSetIterable iter env x = pure x := by intro _; rfl) :
    Ex X env A vm gl k (exec (.Assign [.Name x px] (.ListComp elt [⟨tgt, iter, ifs, 0⟩] scope pos) apos) env) (.next vm' gl k') := ex_assign_comp (vmc := []) h (fun _ => turns_one) (one_gen rfl) hclos hok trivial trivial hi hc hsz ha hsw hs
/-- the same, with names from outside -/
theorem ex_acompC {x : Str} {px apos : Pos} {elt tgt iter : PySem.Expr} {ifs : List PySem.Expr} {scope : Scope} {pos : Pos} {cl : List (Str × Addr)} {p : PV} {items rs : List PV} (h : EvE X env A vm gl k iter p k₁) (hi : IterOf X A p items) (hclos : closureFor scope env = pure cl) (hcl : SubC env.cells cl) (hcap : Cap vm env scope.names cl vmc)
    (hc : ∀ C, CompEx X (compEnvC scope cl C env) A elt [⟨tgt, iter, ifs, 0⟩] items vmc k₁ rs k') (hsz : rs.length ≤ sizeLine)
    (ha : Asg X env A true gl (.Name x px) (.list rs) vm vm') (hok : scopeOk scope = true := by kernel_rfl)
    (hsw : swapsWith (.ListComp elt [⟨tgt, iter, ifs, 0⟩] scope pos) (some (.Name x px)) apos.line env = pure true := by rfl) (hs : ∀ x, foldedSetIterable iter env x = pure x := by intro _; rfl) :
    Ex X env A vm gl k (exec (.Assign [.Name x px] (.ListComp elt [⟨tgt, iter, ifs, 0⟩] scope pos) apos) env) (.next vm' gl k') := ex_assign_comp h (fun _ => turns_one) (one_gen rfl) hclos hok hcl hcap hi hc hsz ha hsw hs
theorem cap1 {names : List (Str × NameKind)} {x : Str} {p : PV} {c : Addr} (h : vm.lookup x = some p) (h1 : isC (env.kindOf x) = true) (h2 : isC (names.lookup x) = true) : Cap vm env names [(x, c)] [(x, p)] := ⟨h, h1, h2, ⟨c, by simp⟩, trivial⟩
theorem subc1 {cells : List (Str × Addr)} {x : Str} {c : Addr} (h : cells.lookup x = some c) : SubC cells [(x, c)] := ⟨h, rfl, trivial⟩
theorem cap2 {names : List (Str × NameKind)} {x y : Str} {p q : PV} {c d : Addr} (hxy : (x == y) = false) (h : vm.lookup x = some p) (h1 : isC (env.kindOf x) = true) (h2 : isC (names.lookup x) = true) (g : vm.lookup y = some q) (g1 : isC (env.kindOf y) = true) (g2 : isC (names.lookup y) = true) :
    Cap vm env names [(y, d), (x, c)] [(x, p), (y, q)] := ⟨h, h1, h2, ⟨c, by rw [List.lookup_cons, hxy]; simp⟩, g, g1, g2, ⟨d, by simp⟩, trivial⟩
theorem subc2 {cells : List (Str × Addr)} {x y : Str} {c d : Addr} (h : cells.lookup x = some c) (hd : cells.lookup y = some d) (hxy : (x == y) = false) : SubC cells [(x, c), (y, d)] := ⟨h, by rw [List.lookup_cons, hxy]; rfl, hd, rfl, trivial⟩
theorem own_small : ∀ w ∈ ownWords, (∀ c ∈ w.cps.toList, c < 1000) ∧ w.cps.toList.length ≤ 1000000 := by decide +kernel
theorem f_without_words {fs : List Fd} (hw : ∀ f ∈ fs, (ownWords.map lowS).any (· == wordOf f.1) = false) (hz : ∀ f ∈ fs, f.1.length ≤ 1000000) (hl : fs.length ≤ 1000000) : FSpec X (n + 4) (.ref 185) [.list (fs.map fieldPV), .tup (ownWords.map .str)] k (.list (fs.map fieldPV)) k :=
  fspec o_234 (sBody (stm 26)) [(s_fields, .list (fs.map fieldPV)), (s_words, .tup (ownWords.map .str))] (.ret (.list (fs.map fieldPV)) k) (bind2 fun v u => by kernel_rfl) (fun L => ⟨.inl (by kernel_rfl), rfl, .inl (by kernel_rfl), rfl, trivial⟩)
    (fun L A R => ex_seq (ex_assign (ev_comp1 (rs := (ownWords.map lowS).map .str) ev_nm (iter_tup R.hh) (fun C => cmap ownWords .str (fun w => .str (lowS w)) (fun w => [(s_word, .str w)]) (fun c _ => asg_name (by kernel_rfl)) (fun c _ => sub_tl) (fun w hw => call1 g_lower_text c_lower_text ev_nm (fsum (n := 2) (f_lower_text (own_small w hw).1 (own_small w hw).2) (by omega) R)))
        (by simp [ownWords, sizeLine])) (asg_cell (by kernel_rfl) (by kernel_rfl)))
      (ex_stop (ex_ret (ev_compC (vmc := [(s_barred, .list ((ownWords.map lowS).map .str))]) (cl := [(s_barred, L + 1)]) ev_nm (iter_list R.hh) (by rfl) (subc1 (by kernel_rfl)) (cap1 lk0 (by kernel_rfl) (by kernel_rfl))
        (fun C => by
          have hf : fs = fs.filter fun f => !(ownWords.map lowS).any (· == wordOf f.1) := (List.filter_eq_self.mpr fun f hf => by rw [hw f hf]; rfl).symm
          exact cfilter fs fieldPV fieldPV (fun f => !(ownWords.map lowS).any (· == wordOf f.1)) (fun f => [(s_field, fieldPV f), (s_barred, .list ((ownWords.map lowS).map .str))]) (fun c _ => asg_name (by kernel_rfl)) (fun c _ => sub_tl)
            (fun f hf => evb_cmp (ev_meth ev_nm (meth_inst (f := 138) (by kernel_rfl) (by kernel_rfl)) (callee_k (by kernel_rfl)) a0 (fsum (n := 3) (f_word (hz f hf)) (by omega) R)) ev_nm notin_lists) (fun f _ _ => ev_nm) rfl (by rw [← hf]))
        (by simp [sizeLine]; omega))))) ⟨rfl, rfl⟩
theorem f_check_fields {fs : List Fd} (hw : ∀ f ∈ fs, (ownWords.map lowS).any (· == wordOf f.1) = false) (hz : ∀ f ∈ fs, f.1.length ≤ 1000000) (hl : fs.length ≤ 1000000) : FSpec X (n + 5) (.ref 553) [.tup (fs.map fieldPV)] k .none k :=
  fspec o_618 (sBody (stm 93)) [(s_fields, .tup (fs.map fieldPV))] (.next [(s_fields, .tup (fs.map fieldPV))] none k) (bind1 fun v => by kernel_rfl) (fun L => kinds1 (by kernel_rfl))
    (fun L A R => ex_guard ((evb_cmp (call1 g_len callee_val (call2 g_without_words c_without_words (call1 g_list callee_val ev_nm (list_of (.inr rfl) (by simp [sizeLine]; omega))) g_OWN_WORDS (fsum (n := 4) (f_without_words hw hz hl) (by omega) R)) (len_l (by simp; omega))) (call1 g_len callee_val ev_nm (len_t (by simp; omega))) cmp_nei).cast (by simp)) ex_nil) ⟨rfl, rfl⟩
end
noncomputable def s_worth : Str := ⟨#[119, 111, 114, 116, 104]⟩
noncomputable def s_whole : Str := ⟨#[119, 104, 111, 108, 101]⟩
noncomputable def tb (x : Str) : List UInt8 := x.cps.toList.map fun c : Nat => toB (c : Int)
noncomputable def escFree (c : UInt8) : Bool := !([0, 10, 13].any fun i : Int => i == (c.toNat : Int)) && !([34, 92] : List UInt8).contains (toB (c.toNat : Int))
noncomputable def quotedB (nm : List UInt8) (y : Str) : List UInt8 := nm ++ [61, 34] ++ tb y ++ [34]
noncomputable def wordOk (x : Str) : Bool := x.cps.toList.all (fun c => decide (c < 128)) && isTok (tb x) && ((lowS x).cps.toList == x.cps.toList) && decide (x.cps.toList.length ≤ 40)
theorem tb_len (x : Str) : (tb x).length = x.cps.toList.length := by simp [tb]
theorem str_len (x : Str) : x.length = x.cps.toList.length := by simp [Str.length]
section
variable {X : Cx} {env : Env} {A : Around} {vm vmc vm' : List (Str × PV)} {gl : Option (Str × List PV)} {k k₁ k' : TS} {n : Nat}
set_option maxHeartbeats 4000000 in
theorem f_escaped {c : UInt8} (h : escFree c = true) : FSpec X (n + 1) (.ref 239) [.bytes [c], .bytes [34, 92]] k (.bytes [c]) k :=
  fspec o_288 (sBody (stm 41)) [(s_octets, .bytes [c]), (s_signs, .bytes [34, 92])] (.ret (.bytes [c]) k) (bind2 fun v u => by kernel_rfl) (fun L => ⟨.inl (by kernel_rfl), rfl, .inl (by kernel_rfl), rfl, trivial⟩)
    (fun L A R => by
      unfold escFree at h
      rw [Bool.and_eq_true] at h
      exact ex_seq (ex_glist a0) (ex_seq (ex_for (items := [.int (0 : Nat)]) (call1 g_range callee_val (call1 g_len callee_val ev_nm (len_b (by simp))) (range_i (n := 1))) (iter_range (n := 1) R.hh (by omega))
          (.turn (vm₁ := [(s_at, .int (0 : Nat)), (s_octets, .bytes [c]), (s_signs, .bytes [34, 92])]) (asg_name (by kernel_rfl) (gne (by decide))) (ex_guard ((evb_cmp (ev_sub ev_nm ev_nm gets_b (item_bytes (l := [c]) (i := ((0 : Nat) : Int)) (by simp) (by simp) (by simp))) g_NEVER_ESCAPED in_tupi).cast (notT h.1))
            (ex_guard ((evb_cmp (ev_sub ev_nm ev_nm gets_b (item_bytes (l := [c]) (i := ((0 : Nat) : Int)) (by simp) (by simp) (by simp))) ev_nm (in_bytes (by simp) (by have := u8_lt c; simp; omega))).cast (notT h.2))
              (ex_seq (ex_append (l := []) (ev_slice ev_nm (.some ev_nm) (.some (ev_bin ev_nm ev_int bin_addi)) gets_b (cut_bytes (by simp))) (by simp)) (ex_end (vm' := [(s_octets, .bytes [c]), (s_signs, .bytes [34, 92])]) sub_tl)))) .stop))
        (ex_freeze (by kernel_rfl) (ex_stop (ex_ret (ev_methE rfl ev_bytes m_bjoin callee_val (a1 ev_nm) (join_b (sep := []) (bs := [[c]]) (by simp)))))))) ⟨rfl, rfl⟩
end
noncomputable def paramRow (x y : Str) : List UInt8 := if isTok (tb y) && (decide ((((tb x ++ [61]) ++ tb y).length : Int) + 2 ≤ 78) && true) then tb x ++ [61] ++ tb y else quotedB (tb x) y
noncomputable def paramOk (x y : Str) : Bool := wordOk x && ((tb x).filter fun c => ([42, 39, 37] : List UInt8).contains (toB (c.toNat : Int))).isEmpty && y.cps.toList.all (fun c => decide (c < 128)) && isPlain y.cps.toList && (tb y).all escFree && decide ((quotedB (tb x) y).length ≤ 76)
theorem quotedB_len (nm : List UInt8) (y : Str) : (quotedB nm y).length = nm.length + 3 + y.cps.toList.length := by simp [quotedB, tb]; omega
theorem paramRow_len {x y : Str} (h : (quotedB (tb x) y).length ≤ 76) : (paramRow x y).length ≤ 76 := by
  unfold paramRow
  split
  · rw [quotedB_len] at h; simp [tb] at h ⊢; omega
  · exact h
theorem toB_nat (c : UInt8) : toB (c.toNat : Int) = c := by unfold toB; simp
theorem flat_one {α β : Type} (f : α → β) (l : List α) : (l.map fun a => [f a]).flatten = l.map f := by
  induction l with
  | nil => rfl
  | cons a l ih => simp [ih]
theorem sum_ones {α β : Type} (f : α → β) (l : List α) : ((l.map fun a => [f a]).map List.length).sum = l.length := by
  induction l with
  | nil => rfl
  | cons a l ih => simp at ih ⊢; omega
section
variable {X : Cx} {env : Env} {A : Around} {vm vmc vm' : List (Str × PV)} {gl : Option (Str × List PV)} {k k₁ k' : TS} {n : Nat}
set_option maxHeartbeats 4000000 in
theorem f_quoted {nm : List UInt8} {y : Str} (hy : ∀ c ∈ y.cps.toList, c < 128) (he : ∀ c ∈ tb y, escFree c = true) (hz : (quotedB nm y).length ≤ 76) : FSpec X (n + 2) (.ref 327) [.bytes nm, .str y] k (.list [.bytes (quotedB nm y)]) k :=
  fspec o_382 (sBody (stm 59)) [(s_name, .bytes nm), (s_text, .str y)] (.ret (.list [.bytes (quotedB nm y)]) k) (bind2 fun v u => by kernel_rfl) (fun L => ⟨.inr ⟨by kernel_rfl, by kernel_rfl⟩, rfl, .inl (by kernel_rfl), rfl, trivial⟩)
    (fun L A R => by
      have hz' := hz
      rw [quotedB_len] at hz'
      exact ex_seq (ex_acomp (rs := (y.cps.toList.map fun c : Nat => [toB (c : Int)]).map .bytes) ev_nm (iter_str R.hh) (fun C => cmap y.cps.toList (fun c : Nat => .str ⟨#[c]⟩) (fun c : Nat => .bytes [toB (c : Int)]) (fun c => [(s_sign, .str ⟨#[c]⟩)]) (fun c _ => asg_name (by kernel_rfl)) (fun c _ => sub_tl)
          (fun c hc => call2 g_escaped_octets c_escaped_octets (call1 g_bytes callee_val (ev_list (ps := [.int (c : Int)]) (a1 (call1 g_ord callee_val ev_nm ord_c))) (bytes_l (l := [(c : Int)]) R.hh (by intro m hm; simp at hm; subst hm; have := hy c hc; omega) (by simp [sizeLine]))) ev_bytes (fsum (n := 1) (f_escaped (he _ (List.mem_map_of_mem hc))) (by omega) R)) rfl (by rw [List.map_map]; rfl))
          (by rw [List.length_map, List.length_map]; unfold sizeLine; omega) (asg_name (by kernel_rfl)))
        (ex_seq (ex_assign (p := .bytes (quotedB nm y)) ((ev_bin (ev_bin (ev_bin ev_nm ev_bytes (bin_addb (by simp; omega))) (ev_methE rfl ev_bytes m_bjoin callee_val (a1 ev_nm) (join_b (by rw [sum_ones]; simp; simp at hz'; omega))) (bin_addb (by rw [bjoin_nil, flat_one]; simp; simp at hz'; omega))) ev_bytes (bin_addb (by rw [bjoin_nil, flat_one]; simp; simp at hz'; omega))).cast (by rw [bjoin_nil, flat_one]; rfl)) (asg_name (by kernel_rfl)))
          (ex_stop (ex_if (c := true) ((evb_cmp (ev_bin (call1 g_len callee_val ev_nm (len_b (by omega))) ev_int bin_addi) g_WIDTH cmp_lei).cast (by simp; omega)) (fun _ => ex_stop (ex_ret (ev_list (a1 ev_nm)))) (fun h => nomatch h))))) ⟨rfl, rfl⟩
end
section
variable {X : Cx} {env : Env} {A : Around} {vm vmc vm' : List (Str × PV)} {gl : Option (Str × List PV)} {k k₁ k' : TS} {n : Nat}
theorem ints_map (l : List Nat) : (l.map fun c : Nat => PV.int (c : Int)) = (l.map fun c : Nat => (c : Int)).map .int := by rw [List.map_map]; rfl
theorem tb_map (x : Str) : (x.cps.toList.map fun c : Nat => (c : Int)).map toB = tb x := by rw [List.map_map]; rfl
/-- bytes([ord(sign) for sign in x if ord(sign) < 128]) -/
theorem ev_ords {fn elt te iter tgt : PySem.Expr} {scope : Scope} {pos pos' : Pos} {x : Str} (R : Room A 0) (hf : EvE X env A vm gl k fn (.glob (.type "bytes")) k) (h : EvE X env A vm gl k iter (.str x) k) (hx : ∀ c ∈ x.cps.toList, c < 128) (hz : x.cps.toList.length ≤ 1000000)
    (hc : ∀ C, CompEx X (compEnvC scope [] C env) A elt [⟨tgt, iter, [te], 0⟩] (chars x) [] k ((x.cps.toList.filter fun c : Nat => decide ((c : Int) < 128)).map fun c : Nat => PV.int (c : Int)) k)
    (hclos : closureFor scope env = pure [] := by rfl) (hok : scopeOk scope = true := by kernel_rfl) (hs : ∀ x, foldedSetIterable iter env x = pure x := by intro _; rfl)
    (he : starEach [.ListComp elt [⟨tgt, iter, [te], 0⟩] scope pos] env = (false, eval (.ListComp elt [⟨tgt, iter, [te], 0⟩] scope pos) env) :: starEach [] env := by rfl)
    (hsh : eval (.Call fn [.ListComp elt [⟨tgt, iter, [te], 0⟩] scope pos] [] pos') env = (eval fn env >>= fun u => callWith pos' u [] (backTo pos' (starEach [.ListComp elt [⟨tgt, iter, [te], 0⟩] scope pos] env)) []) := by rfl) : EvE X env A vm gl k (.Call fn [.ListComp elt [⟨tgt, iter, [te], 0⟩] scope pos] [] pos') (.bytes (tb x)) k := by
  have hfl : (x.cps.toList.filter fun c : Nat => decide ((c : Int) < 128)) = x.cps.toList := List.filter_eq_self.mpr fun c hc => by have := hx c hc; simp; omega
  rw [hfl, ints_map] at hc
  have := call1 (k₁ := k) (k₂ := k) (k₃ := k) (pos := pos') hf callee_val (ev_comp1 (pos := pos) h (iter_str R.hh) hc (by rw [List.length_map, List.length_map]; unfold sizeLine; omega) hclos hok hs) (bytes_l R.hh (by intro m hm; rw [List.mem_map] at hm; obtain ⟨c, hc, rfl⟩ := hm; have := hx c hc; omega) (by rw [List.length_map]; unfold sizeLine; omega)) he hsh
  rw [tb_map] at this
  exact this
theorem wordOk_spec {x : Str} (h : wordOk x = true) : (∀ c ∈ x.cps.toList, c < 128) ∧ isTok (tb x) = true ∧ (lowS x).cps.toList = x.cps.toList ∧ x.cps.toList.length ≤ 40 := by
  unfold wordOk at h
  simp only [Bool.and_eq_true, List.all_eq_true, decide_eq_true_eq, beq_iff_eq] at h
  exact ⟨h.1.1.1, h.1.1.2, h.1.2, h.2⟩
theorem f_param_rows {x y : Str} (h : paramOk x y = true) : FSpec X (n + 3) (.ref 337) [.str x, .str y] k (.list [.bytes (paramRow x y)]) k :=
  fspec o_392 (sBody (stm 61)) [(s_name, .str x), (s_text, .str y)] (.ret (.list [.bytes (paramRow x y)]) k) (bind2 fun v u => by kernel_rfl) (fun L => ⟨.inl (by kernel_rfl), rfl, .inl (by kernel_rfl), rfl, trivial⟩)
    (fun L A R => by
      unfold paramOk at h
      simp only [Bool.and_eq_true] at h
      obtain ⟨⟨⟨⟨⟨h1, h2⟩, h3⟩, h4⟩, h5⟩, h6⟩ := h
      obtain ⟨w1, w2, w3, w4⟩ := wordOk_spec h1
      simp only [List.all_eq_true, decide_eq_true_eq] at h3 h5 h6
      have hz := h6
      rw [quotedB_len] at hz
      have hlx := tb_len x
      have hly := tb_len y
      refine ex_seq (ex_assign (ev_ords (R.le (by omega)) g_bytes ev_nm w1 (by omega) (fun C => cfilter x.cps.toList (fun c : Nat => .str ⟨#[c]⟩) (fun c : Nat => .int (c : Int)) (fun c : Nat => decide ((c : Int) < 128)) (fun c => [(s_sign, .str ⟨#[c]⟩)]) (fun c _ => asg_name (by kernel_rfl)) (fun c _ => sub_tl)
          (fun c _ => evb_cmp (call1 g_ord callee_val ev_nm ord_c) ev_int cmp_lti) (fun c _ _ => call1 g_ord callee_val ev_nm ord_c))) (asg_name (by kernel_rfl))) ?_
      refine ex_seq (ex_acomp ev_nm (iter_bytes R.hh) (fun C => cfilter (tb x) (fun c : UInt8 => .int c.toNat) (fun c => .int c.toNat) (fun c => ([42, 39, 37] : List UInt8).contains (toB (c.toNat : Int))) (fun c => [(s_code, .int c.toNat)]) (fun c _ => asg_name (by kernel_rfl)) (fun c _ => sub_tl)
          (fun c _ => evb_cmp ev_nm g_BARRED_IN_NAMES (in_bytes (by omega) (by have := u8_lt c; omega))) (fun c _ _ => ev_nm)) (fsz (by omega)) (asg_name (by kernel_rfl))) ?_
      refine ex_guard ((evb_bool (evt_or (evb_cmp (call1 g_len callee_val ev_nm (len_b (by omega))) (call1 g_len callee_val ev_nm (len_s (by rw [str_len]; omega))) cmp_lti) fun _ => evt_or (evb_not (evb_val (call1 g_is_token c_is_token ev_nm (fsum (n := 2) (f_is_token (by omega)) (by omega) R)) tr_bool) rfl) fun _ =>
          evt_or (evb_cmp (call1 g_len callee_val ev_nm (len_s (by rw [str_len]; omega))) g_MOST_NAME cmp_gti) fun _ => evt_or (evb_val ev_nm (tr_list (by rw [List.length_map]; have := List.length_filter_le (fun c : UInt8 => ([42, 39, 37] : List UInt8).contains (toB (c.toNat : Int))) (tb x); omega))) fun _ =>
          evt_or (evb_cmp (call1 g_lower_text c_lower_text ev_nm (fsum (n := 2) (f_lower_text (fun c hc => by have := w1 c hc; omega) (by omega)) (by omega) R)) ev_nm cmp_nes) fun _ => evt_or_nil)).cast (by rw [w2, w3, List.isEmpty_map, h2, tb_len, str_len]; simp; simp at w4; omega)) ?_
      refine ex_seq (ex_if (c := false) (evb_not (evb_val (call1 g_is_plain_params c_is_plain_params ev_nm (fsum (n := 1) (f_is_plain (cs := y.cps.toList) (by omega)) (by omega) R)) tr_bool) (by rw [h4]; rfl)) (fun h => nomatch h) (fun _ =>
        ex_seq (ex_assign (p := .bytes (tb y)) ((call1 g_bytes callee_val (ev_comp1 (rs := (y.cps.toList.map fun c : Nat => (c : Int)).map .int) ev_nm (iter_str R.hh) (fun C => cmap y.cps.toList (fun c : Nat => .str ⟨#[c]⟩) (fun c : Nat => .int (c : Int)) (fun c => [(s_sign, .str ⟨#[c]⟩)]) (fun c _ => asg_name (by kernel_rfl)) (fun c _ => sub_tl) (fun c _ => call1 g_ord callee_val ev_nm ord_c) rfl (ints_map _).symm)
            (by rw [List.length_map, List.length_map]; unfold sizeLine; omega)) (bytes_l R.hh (by intro m hm; rw [List.mem_map] at hm; obtain ⟨c, hc, rfl⟩ := hm; have := h3 c hc; omega) (by rw [List.length_map]; unfold sizeLine; omega))).cast (by rw [tb_map])) (asg_name (by kernel_rfl)))
        (ex_seq (ex_assign (ev_bin (ev_bin ev_nm ev_bytes (bin_addb (by simp; omega))) ev_nm (bin_addb (by simp; omega))) (asg_name (by kernel_rfl)))
        (ex_seq (ex_assign (p := .list [.bytes (paramRow x y)]) (ev_ifexp (evb_bool (evt_and (evb_val (call1 g_is_token c_is_token ev_nm (fsum (n := 2) (f_is_token (by omega)) (by omega) R)) tr_bool) fun _ => evt_and (evb_cmp (ev_bin (call1 g_len callee_val ev_nm (len_b (by simp; omega))) ev_int bin_addi) g_WIDTH cmp_lei) fun _ => evt_and_nil))
            (fun h => (ev_list (a1 ev_nm)).cast (by unfold paramRow; rw [if_pos h])) (fun h => (call2 g_quoted_rows c_quoted_rows ev_nm ev_nm (fsum (n := 2) (f_quoted h3 h5 h6) (by omega) R)).cast (by unfold paramRow; rw [if_neg (by rw [h]; simp)]))) (asg_name (by kernel_rfl))) ex_nil)))) ?_
      exact ex_guard ((evb_cmp (call1 g_len callee_val ev_nm (len_l (by simp))) g_MOST_PARTS cmp_gti).cast (by simp)) (ex_stop (ex_ret ev_nm))) ⟨rfl, rfl⟩
end
noncomputable def pks (o : Option (Str × Str)) : List Str := o.toList.map (·.1)
noncomputable def pvs (o : Option (Str × Str)) : List PV := o.toList.map fun q => .str q.2
noncomputable def paramsB : Option (Str × Str) → List UInt8
  | none => []
  | some (x, y) => [59, 13, 10] ++ ([32] ++ paramRow x y)
noncomputable def paramsOk : Option (Str × Str) → Bool
  | none => true
  | some (x, y) => paramOk x y
noncomputable def kindB (top sub : Str) (o : Option (Str × Str)) : List UInt8 := tb top ++ [47] ++ tb sub ++ paramsB o
noncomputable def kindOk (top sub : Str) (o : Option (Str × Str)) : Bool := wordOk top && wordOk sub && paramsOk o
section
variable {X : Cx} {env : Env} {A : Around} {vm vmc vm' : List (Str × PV)} {gl : Option (Str × List PV)} {k k₁ k' : TS} {n : Nat}
theorem for_grow {α : Type} {x : Str} {tgt : PySem.Expr} {body : List Stmt} (N : Nat) (f g : α → PV) (vm₁ : α → List (Str × PV)) : ∀ (l : List α) (acc : List PV), (∀ a ∈ l, ∀ acc, Asg X env A true (some (x, acc)) tgt (f a) vm (vm₁ a)) →
    (∀ a ∈ l, ∀ acc : List PV, acc.length ≤ N → Ex X env A (vm₁ a) (some (x, acc)) k (execs body env) (.next vm (some (x, acc ++ [g a])) k)) → acc.length + l.length ≤ N → ForEx X env A tgt body (l.map f) vm (some (x, acc)) k (.next vm (some (x, acc ++ l.map g)) k)
  | [], acc, _, _, _ => by simpa using ForEx.stop
  | a :: l, acc, h1, h2, hN => by
    simp only [List.length_cons] at hN
    have := for_grow (x := x) (tgt := tgt) (body := body) N f g vm₁ l (acc ++ [g a]) (fun b hb => h1 b (List.mem_cons_of_mem _ hb)) (fun b hb => h2 b (List.mem_cons_of_mem _ hb)) (by simp; omega)
    rw [List.append_assoc] at this
    exact .turn (h1 a List.mem_cons_self acc) (h2 a List.mem_cons_self acc (by omega)) this
theorem f_write_params {hd : List UInt8} {o : Option (Str × Str)} (ho : paramsOk o = true) (hz : hd.length ≤ 1000) : FSpec X (n + 4) (.ref 342) [.bytes hd, .dict X.w.params (pks o) (pvs o)] k (.bytes (hd ++ paramsB o)) k :=
  fspec o_397 (sBody (stm 62)) [(s_head, .bytes hd), (s_params, .dict X.w.params (pks o) (pvs o))] (.ret (.bytes (hd ++ paramsB o)) k) (bind2 fun v u => by kernel_rfl) (fun L => ⟨.inl (by kernel_rfl), rfl, .inl (by kernel_rfl), rfl, trivial⟩)
    (fun L A R => by
      refine ex_seq (ex_glist (a1 ev_nm)) ?_
      cases o with
      | none =>
        exact ex_seq (ex_for (call1 g_sorted callee_val ev_nm (sorted_dict R.hh (by simp [pks]))) (iter_list R.hh) .stop) (ex_freeze (by kernel_rfl) (ex_stop (ex_ret ((ev_methE rfl (ev_bin ev_bytes g_CRLF (bin_addb (by simp))) m_bjoin callee_val (a1 ev_nm) (join_b (bs := [hd]) (by simp; omega))).cast (by simp [paramsB, bjoin])))))
      | some q =>
        obtain ⟨x, y⟩ := q
        have hq : (quotedB (tb x) y).length ≤ 76 := by unfold paramsOk paramOk at ho; simp only [Bool.and_eq_true, decide_eq_true_eq] at ho; exact ho.2
        have hp := paramRow_len hq
        exact ex_seq (ex_for (items := [.str x]) (call1 g_sorted callee_val ev_nm (sorted_dict R.hh (by simp [pks]))) (iter_list R.hh) (.turn (vm₁ := [(s_name, .str x), (s_head, .bytes hd), (s_params, .dict X.w.params (pks (some (x, y))) (pvs (some (x, y))))]) (asg_name (by kernel_rfl) (gne (by decide)))
            (ex_seq (ex_extend (l' := [.bytes ([32] ++ paramRow x y)]) (ev_comp1 (call2 g_param_rows c_param_rows ev_nm (ev_item_dict (j := 0) ev_nm ev_nm (by simp [pks]) rfl rfl) (fsum (n := 3) (f_param_rows ho) (by omega) R)) (iter_list R.hh)
              (fun C => cmap [paramRow x y] .bytes (fun r => .bytes ([32] ++ r)) (fun r => [(s_row, .bytes r)]) (fun c _ => asg_name (by kernel_rfl)) (fun c _ => sub_tl) (fun c hc => ev_bin ev_bytes ev_nm (bin_addb (by simp at hc; subst hc; simp; omega)))) (by simp [sizeLine])) (by simp) (by simp)) (ex_end (vm' := [(s_head, .bytes hd), (s_params, .dict X.w.params (pks (some (x, y))) (pvs (some (x, y))))]) sub_tl)) .stop))
          (ex_freeze (by kernel_rfl) (ex_stop (ex_ret ((ev_methE rfl (ev_bin ev_bytes g_CRLF (bin_addb (by simp))) m_bjoin callee_val (a1 ev_nm) (join_b (bs := [hd, [32] ++ paramRow x y]) (by simp; omega))).cast (by simp [paramsB, bjoin])))))) ⟨rfl, rfl⟩
set_option maxHeartbeats 4000000 in
theorem f_write_kind {top sub : Str} {o : Option (Str × Str)} (h : kindOk top sub o = true) : FSpec X (n + 5) (.ref 347) [kindPV top sub (.dict X.w.params (pks o) (pvs o))] k (.bytes (kindB top sub o)) k :=
  fspec o_402 (sBody (stm 63)) [(s_kind, kindPV top sub (.dict X.w.params (pks o) (pvs o)))] (.ret (.bytes (kindB top sub o)) k) (bind1 fun v => by kernel_rfl) (fun L => kinds1 (by kernel_rfl))
    (fun L A R => by
      unfold kindOk at h
      simp only [Bool.and_eq_true] at h
      obtain ⟨⟨ht, hs⟩, ho⟩ := h
      have l1 := (wordOk_spec ht).2.2.2
      have l2 := (wordOk_spec hs).2.2.2
      have e1 := tb_len top
      have e2 := tb_len sub
      have hw : ∀ w ∈ [top, sub], wordOk w = true := forall2 ht hs
      refine ex_seq (ex_glist a0) (ex_seq (ex_for (items := [top, sub].map .str) (ev_tuple (a2 (ev_attr (i := 0) ev_nm (by kernel_rfl) rfl rfl (by kernel_rfl)) (ev_attr (i := 1) ev_nm (by kernel_rfl) rfl rfl (by kernel_rfl)))) (iter_tup R.hh)
        (for_grow 10 .str (fun w => .bytes (tb w)) (fun w => [(s_word, .str w), (s_kind, kindPV top sub (.dict X.w.params (pks o) (pvs o)))]) [top, sub] [] (fun a _ acc => asg_name (by kernel_rfl) (gne (by decide))) (fun x hx acc hacc => ?_) (by simp))) ?_)
      · obtain ⟨w1, w2, w3, w4⟩ := wordOk_spec (hw x hx)
        have hlx := tb_len x
        exact ex_seq (ex_assign (ev_ords (R.le (by omega)) g_bytes ev_nm w1 (by omega) (fun C => cfilter x.cps.toList (fun c : Nat => .str ⟨#[c]⟩) (fun c : Nat => .int (c : Int)) (fun c : Nat => decide ((c : Int) < 128)) (fun c => [(s_sign, .str ⟨#[c]⟩)]) (fun c _ => asg_name (by kernel_rfl)) (fun c _ => sub_tl)
            (fun c _ => evb_cmp (call1 g_ord callee_val ev_nm ord_c) ev_int cmp_lti) (fun c _ _ => call1 g_ord callee_val ev_nm ord_c))) (asg_name (by kernel_rfl) (gne (by decide))))
          (ex_guard ((evb_bool (evt_or (evb_cmp (call1 g_len callee_val ev_nm (len_b (by omega))) (call1 g_len callee_val ev_nm (len_s (by rw [str_len]; omega))) cmp_lti) fun _ => evt_or (evb_not (evb_val (call1 g_is_token c_is_token ev_nm (fsum (n := 2) (f_is_token (by omega)) (by omega) R)) tr_bool) rfl) fun _ =>
              evt_or (evb_cmp (call1 g_lower_text c_lower_text ev_nm (fsum (n := 2) (f_lower_text (fun c hc => by have := w1 c hc; omega) (by omega)) (by omega) R)) ev_nm cmp_nes) fun _ => evt_or_nil)).cast (by rw [w2, w3, tb_len, str_len]; simp))
            (ex_seq (ex_append ev_nm (by omega)) (ex_end (vm' := [(s_kind, kindPV top sub (.dict X.w.params (pks o) (pvs o)))]) (Sub.cons lk2 Sub.nil))))
      · exact ex_freeze (by kernel_rfl) (ex_stop (ex_ret ((call2 g_write_params c_write_params (ev_methE rfl ev_bytes m_bjoin callee_val (a1 ev_nm) (join_b (bs := [tb top, tb sub]) (by simp; simp at l1 l2 e1 e2; omega))) (ev_attr (i := 2) ev_nm (by kernel_rfl) rfl rfl (by kernel_rfl)) (fsum (n := 4) (f_write_params ho (by simp [bjoin]; simp at l1 l2 e1 e2; omega)) (by omega) R)).cast (by simp [bjoin, kindB]))))) ⟨rfl, rfl⟩
end
noncomputable def s_mark : Str := ⟨#[109, 97, 114, 107]⟩
noncomputable def s_first : Str := ⟨#[102, 105, 114, 115, 116]⟩
noncomputable def lastOf (d : List UInt8) (b s : Nat) : Nat := if b < s ∧ (d.getD (s - 1) 0).toNat = 13 then s - 1 else s
open Builtin in
noncomputable def spansF : Nat → List UInt8 → Nat → List (Nat × Nat × Nat)
  | 0, _, _ => []
  | f + 1, d, b => if b < d.length then (match Bytes.find? d.toArray [10].toArray b d.length with
      | none => [(b, d.length, d.length)]
      | some s => (b, lastOf d b s, s + 1) :: spansF f d (s + 1)) else []
noncomputable def spansOf (d : List UInt8) : List (Nat × Nat × Nat) := spansF (d.length + 1) d 0
noncomputable def spanPV (s : Nat × Nat × Nat) : PV := .tup [.int s.1, .int s.2.1, .int s.2.2]
noncomputable def beginsB (d m : List UInt8) : Bool := !((spansOf d).filter fun s => cut d (some (s.1 : Int)) (some ((s.1 : Int) + (m.length : Int))) == m).isEmpty
theorem spansF_len (f : Nat) (d : List UInt8) (b : Nat) : (spansF f d b).length ≤ f := by
  induction f generalizing b with
  | zero => simp [spansF]
  | succ f ih =>
    unfold spansF
    split
    · split
      · simp
      · rename_i s hs; have := ih (s + 1); simp; omega
    · simp
section
variable {X : Cx} {env : Env} {A : Around} {vm vmc vm' : List (Str × PV)} {gl : Option (Str × List PV)} {k k₁ k' : TS} {n : Nat}
theorem while_seq {σ : Type} {test : PySem.Expr} {body rest : List Stmt} {pos : Pos} (V : σ → List (Str × PV)) (G : σ → Option (Str × List PV)) (I : σ → Prop) (μ : σ → Nat) (r : PV) (k' : TS)
    (ht : ∀ s, I s → (EvB X env A (V s) (G s) k test false k ∧ Ex X env A (V s) (G s) k (execs rest env) (.ret r k')) ∨ (EvB X env A (V s) (G s) k test true k ∧ (Ex X env A (V s) (G s) k (execs body env) (.ret r k') ∨ ∃ s', I s' ∧ μ s' < μ s ∧ Ex X env A (V s) (G s) k (execs body env) (.next (V s') (G s') k)))) :
    ∀ s, I s → Ex X env A (V s) (G s) k (execs (.While test body [] pos :: rest) env) (.ret r k') := by
  have key : ∀ m s, μ s = m → I s → ∃ o, WhileEx X env A test body (V s) (G s) k o ∧ Then X env A (execs rest env) o (.ret r k') := by
    intro m
    induction m using Nat.strongRecOn with
    | _ m ih =>
      intro s h hi
      rcases ht s hi with ⟨h1, h2⟩ | ⟨h1, h2 | ⟨s', h2, h3, h4⟩⟩
      · exact ⟨_, .stop h1, h2⟩
      · exact ⟨_, .ret h1 h2, rfl⟩
      · obtain ⟨o, w, t⟩ := ih (μ s') (h ▸ h3) s' rfl h2
        exact ⟨o, .turn h1 h4 w, t⟩
  intro s hi
  obtain ⟨o, w, t⟩ := key _ s rfl hi
  exact ex_then (ex_while w) t
theorem f_line_spans {d : List UInt8} (hz : d.length ≤ 900000) : FSpec X (n + 1) (.ref 118) [.bytes d] k (.list ((spansOf d).map spanPV)) k :=
  fspec o_163 (sBody (stm 18)) [(s_data, .bytes d), (s_at, .int 0), (s_end, .int (-1))] (.ret (.list ((spansOf d).map spanPV)) k) (fun F vs hv => by
      obtain ⟨v, rfl, h⟩ := hv.one_inv
      exact ⟨[(s_data, v), (s_at, .int 0 326), (s_end, .int (-1) 328)], by kernel_rfl, v, _, rfl, h, _, _, rfl, vr_int, _, [], rfl, vr_int, rfl⟩) (fun L => ⟨.inl (by kernel_rfl), rfl, .inl (by kernel_rfl), rfl, .inl (by kernel_rfl), rfl, trivial⟩)
    (fun L A R => by
      refine ex_seq (ex_assign (p := .int d.length) (ev_ifexp (c := true) ((evb_cmp ev_nm ev_int cmp_lti).cast (by decide)) (fun _ => call1 g_len callee_val ev_nm (len_b (by omega))) (fun h => nomatch h)) (asg_name (by kernel_rfl))) (ex_seq (ex_glist a0) (ex_seq (ex_assign ev_nm (asg_name (by kernel_rfl) (gne (by decide)))) ?_))
      refine while_seq (fun s : Nat × List (Nat × Nat × Nat) => [(s_begin, .int s.1), (s_behind, .int d.length), (s_data, .bytes d), (s_at, .int 0), (s_end, .int (-1))]) (fun s => some (s_found, s.2.map spanPV)) (fun s => s.1 ≤ d.length ∧ s.2.length ≤ s.1 ∧ ∃ f, d.length - s.1 < f ∧ s.2 ++ spansF f d s.1 = spansOf d)
        (fun s => d.length - s.1) _ _ ?_ (0, []) ⟨by simp, by simp, d.length + 1, by simp, rfl⟩
      rintro ⟨b, acc⟩ ⟨hb, hac, f, hf, he⟩
      simp only at hb hac hf he
      cases f with
      | zero => omega
      | succ f =>
      unfold spansF at he
      by_cases hlt : b < d.length
      · right
        rw [if_pos hlt] at he
        refine ⟨(evb_cmp ev_nm ev_nm cmp_lti).cast (by simpa using hlt), ?_⟩
        cases hfd : Builtin.Bytes.find? d.toArray [10].toArray b d.length with
        | none =>
          left
          rw [hfd] at he
          have hfb : findB d [10] b d.length = -1 := by unfold findB; rw [hfd]
          refine ex_seq (ex_assign ((ev_meth ev_nm m_find callee_val (a3 ev_bytes ev_nm ev_nm) (find_b (Nat.le_refl _))).cast (by rw [hfb])) (asg_name (by kernel_rfl) (gne (by decide)))) ?_
          exact ex_stop (ex_if (c := true) ((evb_cmp ev_nm ev_int cmp_lti).cast (by decide)) (fun _ => ex_seq (ex_append (ev_tuple (a3 ev_nm ev_nm ev_nm)) (by simp; omega)) ((ex_freeze (by kernel_rfl) (ex_stop (ex_ret ev_nm))).cast (by rw [← he, List.map_append]; rfl))) (fun h => nomatch h))
        | some s =>
          right
          rw [hfd] at he
          obtain ⟨h1, h2⟩ := find_in hfd
          simp at h2
          have hfb : findB d [10] b d.length = s := by unfold findB; rw [hfd]
          refine ⟨(s + 1, acc ++ [(b, lastOf d b s, s + 1)]), ⟨by simp only; omega, by simp; omega, f, by simp only; omega, by simpa using he⟩, by simp only; omega, ?_⟩
          refine ex_seq (ex_assign ((ev_meth ev_nm m_find callee_val (a3 ev_bytes ev_nm ev_nm) (find_b (Nat.le_refl _))).cast (by rw [hfb])) (asg_name (by kernel_rfl) (gne (by decide)))) ?_
          refine ex_guard ((evb_cmp ev_nm ev_int cmp_lti).cast (by simp)) ?_
          refine ex_seq (ex_assign (p := .int (lastOf d b s)) (ev_ifexp (evb_bool (evt_and (evb_cmp ev_nm ev_nm cmp_gti) fun h => evt_and (evb_cmp (ev_sub ev_nm (ev_bin ev_nm ev_int bin_subi) gets_b (item_bytes (i := (s : Int) - 1) (by simp at h; omega) (by simp at h; omega) (by omega))) g_RETURN cmp_eqi) fun _ => evt_and_nil))
              (fun h => (ev_bin ev_nm ev_int bin_subi).cast (by
                simp only [Bool.and_eq_true, decide_eq_true_eq, beq_iff_eq, gt_iff_lt] at h
                have e : ((s : Int) - 1).toNat = s - 1 := by omega
                rw [e] at h
                have h1 := h.1
                unfold lastOf
                rw [if_pos ⟨by omega, by have := h.2.1; omega⟩]; simp; omega))
              (fun h => (ev_nm).cast (by
                unfold lastOf
                rw [if_neg]
                intro hc
                have e : ((s : Int) - 1).toNat = s - 1 := by omega
                rw [e, hc.2] at h
                simp [hc.1] at h))) (asg_name (by kernel_rfl) (gne (by decide)))) ?_
          refine ex_seq (ex_append (ev_tuple (a3 ev_nm ev_nm (ev_bin ev_nm ev_int bin_addi))) (by simp; omega)) (ex_seq (ex_assign (ev_bin ev_nm ev_int bin_addi) (asg_name (by kernel_rfl) (gne (by decide)))) ((ex_end (Sub.cons lk0 (Sub.cons lk4 (Sub.cons lk5 (Sub.cons lk6 (Sub.cons lk7 Sub.nil)))))).cast (by rw [List.map_append]; rfl)))
      · left
        rw [if_neg hlt] at he
        exact ⟨(evb_cmp ev_nm ev_nm cmp_lti).cast (by simpa using hlt), (ex_freeze (by kernel_rfl) (ex_stop (ex_ret ev_nm))).cast (by rw [← he]; simp)⟩) ⟨rfl, rfl⟩
theorem spanPV_asg {env : Env} {own : Bool} {n : Nat} {pos p1 p2 p3 : Pos} (hh : A.handled = none) (s : Nat × Nat × Nat) (h1 : env.kindOf s_first = some .local) (h2 : env.kindOf s_last = some .local) (h3 : env.kindOf s_behind = some .local) :
    Asg X env A own none (.Tuple [.Name s_first p1, .Name s_last p2, .Name s_behind p3] n pos) (spanPV s) vm ((s_behind, .int s.2.2) :: (s_last, .int s.2.1) :: (s_first, .int s.1) :: vm) :=
  asg_tup hh (.cons (asg_name h1) (.cons (asg_name h2) (.cons (asg_name h3) .nil)))
theorem f_begins_line {d m : List UInt8} (hz : d.length ≤ 900000) (hm : m.length ≤ 1000) : FSpec X (n + 2) (.ref 541) [.bytes d, .bytes m] k (.bool (beginsB d m)) k :=
  fspec o_606 (sBody (stm 91)) [(s_octets, .bytes d), (s_mark, .bytes m)] (.ret (.bool (beginsB d m)) k) (bind2 fun v u => by kernel_rfl) (fun L => ⟨.inr ⟨by kernel_rfl, by kernel_rfl⟩, rfl, .inr ⟨by kernel_rfl, by kernel_rfl⟩, rfl, trivial⟩)
    (fun L A R => ex_stop (ex_ret ((ev_cmp (ev_compC (vmc := [(s_mark, .bytes m), (s_octets, .bytes d)]) (cl := [(s_octets, L + 1), (s_mark, L + 2)]) (call1 g_line_spans c_line_spans ev_nm (fsum (n := 1) (f_line_spans hz) (by omega) R)) (iter_list R.hh) (by rfl) (subc2 (by kernel_rfl) (by kernel_rfl) (by decide)) (cap2 (by decide) lk1 (by kernel_rfl) (by kernel_rfl) lk0 (by kernel_rfl) (by kernel_rfl))
      (fun C => cfilter (spansOf d) spanPV (fun _ => .int 1) (fun s => cut d (some (s.1 : Int)) (some ((s.1 : Int) + (m.length : Int))) == m) (fun s => [(s_behind, .int s.2.2), (s_last, .int s.2.1), (s_first, .int s.1), (s_mark, .bytes m), (s_octets, .bytes d)]) (fun s _ => spanPV_asg R.hh s (by kernel_rfl) (by kernel_rfl) (by kernel_rfl)) (fun s _ => Sub.cons lk3 (Sub.cons lk4 Sub.nil))
        (fun s _ => evb_cmp (ev_slice ev_nm (.some ev_nm) (.some (ev_bin ev_nm (call1 g_len callee_val ev_nm (len_b (by omega))) bin_addi)) gets_b (cut_bytes (by omega))) ev_nm cmp_eqb) (fun s _ _ => ev_int)) (fsz (by
          have := spansF_len (d.length + 1) d 0
          unfold spansOf; omega))) (ev_list a0) (cmp_nenil (R.le (by omega)))).cast (by simp [beginsB])))) ⟨rfl, rfl⟩
end
noncomputable def s_base64 : Str := ⟨#[98, 97, 115, 101, 54, 52]⟩
noncomputable def codeAt (d : List UInt8) (i : Nat) : Int := ((d.getD (i : Int).toNat 0).toNat : Int)
noncomputable def sevenAt (d : List UInt8) (i : Nat) : Bool := !((codeAt d i == 0) || (decide (codeAt d i > 127) || false)) &&
  !(((codeAt d i == 13) && ((cut d (some ((i : Int) + 1)) (some ((i : Int) + 2)) != [10]) && true)) || (((codeAt d i == 10) && ((cut d (some (if (0 : Int) > (i : Int) - 1 then 0 else (i : Int) - 1)) (some (i : Int)) != [13]) && true)) || false))
noncomputable def sevenB (d : List UInt8) : Bool := (List.range d.length).all (sevenAt d) && ((spansOf d).filter fun s => decide ((s.2.1 : Int) - (s.1 : Int) > 998)).isEmpty
section
variable {X : Cx} {env : Env} {A : Around} {vm vmc vm' : List (Str × PV)} {gl : Option (Str × List PV)} {k k₁ k' : TS} {n : Nat}
theorem f_is_seven_bit {d : List UInt8} (h : sevenB d = true) (hz : d.length ≤ 900000) : FSpec X (n + 2) (.ref 522) [.bytes d] k (.bool true) k :=
  fspec o_585 (sBody (stm 88)) [(s_octets, .bytes d)] (.ret (.bool true) k) (bind1 fun v => by kernel_rfl) (fun L => kinds1 (by kernel_rfl))
    (fun L A R => by
      unfold sevenB at h
      rw [Bool.and_eq_true] at h
      obtain ⟨h1, h2⟩ := h
      rw [List.all_eq_true] at h1
      refine ex_seq (ex_for (call1 g_range callee_val (call1 g_len callee_val ev_nm (len_b (by omega))) (range_i (n := d.length))) (iter_range R.hh (by omega)) (for_each (List.range d.length) (fun i : Nat => .int (i : Int)) (fun i => [(s_at, .int (i : Int)), (s_octets, .bytes d)]) (fun c _ => asg_name (by kernel_rfl)) (fun i hi => ?_))) ?_
      · have hs := h1 i hi
        have hi : i < d.length := List.mem_range.mp hi
        unfold sevenAt at hs
        rw [Bool.and_eq_true] at hs
        obtain ⟨hs1, hs2⟩ := hs
        exact ex_seq (ex_assign (p := .int (codeAt d i)) (ev_sub ev_nm ev_nm gets_b (item_bytes (by omega) (by omega) (by omega))) (asg_name (by kernel_rfl)))
          (ex_guard ((evb_bool (evt_or (evb_cmp ev_nm ev_int cmp_eqi) fun _ => evt_or (evb_cmp ev_nm ev_int cmp_gti) fun _ => evt_or_nil)).cast (notT hs1))
          (ex_guard ((evb_bool (evt_or (evb_bool (evt_and (evb_cmp ev_nm ev_int cmp_eqi) fun _ => evt_and (evb_cmp (ev_slice ev_nm (.some (ev_bin ev_nm ev_int bin_addi)) (.some (ev_bin ev_nm ev_int bin_addi)) gets_b (cut_bytes (by omega))) ev_bytes cmp_neb) fun _ => evt_and_nil)) fun _ =>
            evt_or (evb_bool (evt_and (evb_cmp ev_nm ev_int cmp_eqi) fun _ => evt_and (evb_cmp (ev_slice ev_nm (.some ((call2 g_max callee_val (ev_bin ev_nm ev_int bin_subi) ev_int (max_i R.hh)))) (.some ev_nm) gets_b (cut_bytes (by omega))) ev_bytes cmp_neb) fun _ => evt_and_nil)) fun _ => evt_or_nil)).cast (notT hs2))
          (ex_end (Sub.cons lk2 Sub.nil))))
      · exact ex_stop (ex_ret ((ev_cmp (ev_comp1 (call1 g_line_spans c_line_spans ev_nm (fsum (n := 1) (f_line_spans hz) (by omega) R)) (iter_list R.hh) (fun C => cfilter (spansOf d) spanPV (fun _ => .int 1) (fun s => decide ((s.2.1 : Int) - (s.1 : Int) > 998)) (fun s => [(s_behind, .int s.2.2), (s_last, .int s.2.1), (s_first, .int s.1)]) (fun s _ => spanPV_asg R.hh s (by kernel_rfl) (by kernel_rfl) (by kernel_rfl)) (fun s _ => Sub.nil)
          (fun s _ => evb_cmp (ev_bin ev_nm ev_nm bin_subi) g_MOST_LINE cmp_gti) (fun s _ _ => ev_int)) (fsz (by
            have := spansF_len (d.length + 1) d 0
            unfold spansOf; omega))) (ev_list a0) (cmp_eqnil (R.le (by omega)))).cast (by rw [List.isEmpty_map, h2])))) ⟨rfl, rfl⟩
theorem f_choose {d : List UInt8} {b : Bool} (h : sevenB d = true) (hz : d.length ≤ 900000) : FSpec X (n + 3) (.ref 529) [.bytes d, .bool b] k (.str s_7bit) k :=
  fspec o_592 (sBody (stm 89)) [(s_octets, .bytes d), (s_is_text, .bool b)] (.ret (.str s_7bit) k) (bind2 fun v u => by kernel_rfl) (fun L => ⟨.inl (by kernel_rfl), rfl, .inl (by kernel_rfl), rfl, trivial⟩)
    (fun L A R => ex_stop (ex_if (c := true) (evb_val (call1 g_is_seven_bit c_is_seven_bit ev_nm (fsum (n := 2) (f_is_seven_bit h hz) (by omega) R)) tr_bool) (fun _ => ex_stop (ex_ret g_PLAIN_ENCODING)) (fun h => nomatch h))) ⟨rfl, rfl⟩
theorem f_in_encoding {d : List UInt8} {b : Bool} : FSpec X (n + 1) (.ref 536) [.str s_7bit, .bytes d, .bool b] k (.bytes d) k :=
  fspec o_599 (sBody (stm 90)) [(s_encoding, .str s_7bit), (s_octets, .bytes d), (s_is_text, .bool b)] (.ret (.bytes d) k) (bind3 fun v u w => by kernel_rfl) (fun L => ⟨.inl (by kernel_rfl), rfl, .inl (by kernel_rfl), rfl, .inl (by kernel_rfl), rfl, trivial⟩)
    (fun L A R => ex_guard ((evb_cmp ev_nm ev_str cmp_eqs).cast (by decide)) (ex_stop (ex_ret (ev_ifexp (c := false) ((evb_cmp ev_nm ev_str cmp_eqs).cast (by decide)) (fun h => nomatch h) (fun _ => ev_nm))))) ⟨rfl, rfl⟩
end
noncomputable def s_own : Str := ⟨#[111, 119, 110]⟩
noncomputable def s_body : Str := ⟨#[98, 111, 100, 121]⟩
noncomputable def s_bodies : Str := ⟨#[98, 111, 100, 105, 101, 115]⟩
noncomputable def ctField (top sub : Str) (o : Option (Str × Str)) : Fd := ([67, 111, 110, 116, 101, 110, 116, 45, 84, 121, 112, 101], [32] ++ kindB top sub o)
noncomputable def headB (top sub : Str) (o : Option (Str × Str)) (fs : List Fd) : List UInt8 := ((ctField top sub o :: fs).map fieldB).flatten ++ [13, 10]
structure FieldsOk (fs : List Fd) : Prop where
  sound : ∀ f ∈ fs, soundB f = true
  word : ∀ f ∈ fs, (ownWords.map lowS).any (· == wordOf f.1) = false
  len : ∀ f ∈ fs, (fieldB f).length ≤ 1000
  few : fs.length ≤ 50
noncomputable def joinB (bs : List (List UInt8)) (m : List UInt8) : List UInt8 := (bs.map fun b => m ++ [13, 10] ++ b ++ [13, 10]).flatten ++ m ++ [45, 45] ++ [13, 10]
theorem paramsB_len {o : Option (Str × Str)} (h : paramsOk o = true) : (paramsB o).length ≤ 100 := by
  cases o with
  | none => simp [paramsB]
  | some q =>
    obtain ⟨x, y⟩ := q
    have hq : (quotedB (tb x) y).length ≤ 76 := by unfold paramsOk paramOk at h; simp only [Bool.and_eq_true, decide_eq_true_eq] at h; exact h.2
    have hp := paramRow_len hq
    simp [paramsB]; omega
theorem kindB_len {top sub : Str} {o : Option (Str × Str)} (h : kindOk top sub o = true) : (kindB top sub o).length ≤ 200 := by
  unfold kindOk at h
  simp only [Bool.and_eq_true] at h
  have l1 := (wordOk_spec h.1.1).2.2.2
  have l2 := (wordOk_spec h.1.2).2.2.2
  have l3 := paramsB_len h.2
  have e1 := tb_len top
  have e2 := tb_len sub
  simp only [kindB, List.length_append, List.length_cons, List.length_nil]
  omega
theorem ctField_len {top sub : Str} {o : Option (Str × Str)} (h : kindOk top sub o = true) : (fieldB (ctField top sub o)).length ≤ 250 := by
  have := kindB_len h
  rw [fieldB_len]
  simp only [ctField, List.length_append, List.length_cons, List.length_nil]
  omega
theorem flat_le {l : List (List UInt8)} {m : Nat} (h : ∀ x ∈ l, x.length ≤ m) : l.flatten.length ≤ m * l.length := by
  have := sum_le (l := l.map List.length) (m := m) (by intro x hx; rw [List.mem_map] at hx; obtain ⟨y, hy, rfl⟩ := hx; exact h y hy)
  rw [List.length_map] at this
  rw [List.length_flatten]; exact this
theorem headB_len {top sub : Str} {o : Option (Str × Str)} {fs : List Fd} (h : kindOk top sub o = true) (hf : FieldsOk fs) : (headB top sub o fs).length ≤ 100000 := by
  have h1 : ((ctField top sub o :: fs).map fieldB).flatten.length ≤ 1000 * ((ctField top sub o :: fs).map fieldB).length := flat_le (by
    intro x hx
    rw [List.mem_map] at hx
    obtain ⟨f, hf', rfl⟩ := hx
    rcases List.mem_cons.mp hf' with rfl | hm
    · have := ctField_len h; omega
    · exact hf.len f hm)
  have := hf.few
  rw [List.length_map, List.length_cons] at h1
  unfold headB
  rw [List.length_append]
  simp only [List.length_cons, List.length_nil]
  omega
section
variable {X : Cx} {env : Env} {A : Around} {vm vmc vm' : List (Str × PV)} {gl : Option (Str × List PV)} {k k₁ k' : TS} {n : Nat}
theorem ex_expr {e : PySem.Expr} {pos : Pos} {p : PV} (h : EvE X env A vm gl k e p k₁) (hi : interactive env = false := by rfl) (hsw : swapsWith e none pos.line env = pure false := by rfl) : Ex X env A vm gl k (exec (.Expr e pos) env) (.next vm gl k₁) :=
  fun s₀ F₀ s Fz Q E f q => wpAny_Expr_any (@h _ _ _ _ _ f _ E fun v s' Fz' b r => q _ s' Fz' ⟨rfl, f.step b⟩ b.xs) hi hsw
theorem f_head_octets {top sub : Str} {o : Option (Str × Str)} {fs : List Fd} (h : kindOk top sub o = true) (hs : soundB (ctField top sub o) = true) (hf : FieldsOk fs) : FSpec X (n + 6) (.ref 558) [.tup (fs.map fieldPV), kindPV top sub (.dict X.w.params (pks o) (pvs o)), .str s_7bit] k (.bytes (headB top sub o fs)) k :=
  fspec o_623 (sBody (stm 94)) [(s_fields, .tup (fs.map fieldPV)), (s_kind, kindPV top sub (.dict X.w.params (pks o) (pvs o))), (s_encoding, .str s_7bit)] (.ret (.bytes (headB top sub o fs)) k) (bind3 fun v u w => by kernel_rfl) (fun L => ⟨.inl (by kernel_rfl), rfl, .inl (by kernel_rfl), rfl, .inl (by kernel_rfl), rfl, trivial⟩)
    (fun L A R => by
      have hk := kindB_len h
      have hc := ctField_len h
      have hfew := hf.few
      have hall : ∀ f ∈ ctField top sub o :: fs, (fieldB f).length ≤ 1000 := by
        intro f hm
        rcases List.mem_cons.mp hm with rfl | hm
        · omega
        · exact hf.len f hm
      have hH := headB_len h hf
      unfold headB at hH
      rw [List.length_append] at hH
      exact ex_seq (ex_expr (call1 g_check_fields c_check_fields ev_nm (fsum (n := 5) (f_check_fields hf.word (fun f hm => by have := hf.len f hm; rw [fieldB_len] at this; omega) (by omega)) (by omega) R)))
        (ex_seq (ex_assign (ev_list (ps := [fieldPV (ctField top sub o)]) (a1 (call2 g_Field c_Field ev_bytes (ev_bin ev_bytes (call1 g_write_kind c_write_kind ev_nm (fsum (n := 5) (f_write_kind h) (by omega) R)) (bin_addb (by simp only [List.length_cons, List.length_nil]; omega))) (mk_Field R)))) (asg_name (by kernel_rfl)))
        (ex_guard ((evb_cmp ev_nm g_PLAIN_ENCODING cmp_nes).cast (by decide))
        (ex_stop (ex_ret (ev_bin (call1 g_write_fields c_write_fields (ev_bin ev_nm (call1 g_list callee_val ev_nm (list_of (.inr rfl) (by rw [List.length_map]; unfold sizeLine; omega))) (bin_addl (by rw [List.length_map]; simp only [List.length_cons, List.length_nil]; omega)))
            (fsum (n := 4) (f_write_fields (fs := ctField top sub o :: fs) (by intro f hm; rcases List.mem_cons.mp hm with rfl | hm; exact hs; exact hf.sound f hm) (fun f hm => by have := hall f hm; omega) (by simp only [List.length_cons]; omega)) (by omega) R)) g_CRLF (bin_addb (by simp only [List.length_cons, List.length_nil] at hH ⊢; omega))))))))
    ⟨rfl, rfl⟩
end
noncomputable def bnd (i : Nat) : Str := s_Q_part ++ (toString (i : Int) : String)
noncomputable def markOf (b : Str) : List UInt8 := [45, 45] ++ tb b
noncomputable def leafB (top sub : Str) (o : Option (Str × Str)) (fs : List Fd) (d : List UInt8) : List UInt8 := headB top sub o fs ++ d
structure LeafOk (top sub : Str) (o : Option (Str × Str)) (fs : List Fd) (d : List UInt8) : Prop where
  kind : kindOk top sub o = true
  ct : soundB (ctField top sub o) = true
  fields : FieldsOk fs
  multi : (top.cps.toList == [109, 117, 108, 116, 105, 112, 97, 114, 116]) = false
  letter : ((top.cps.toList == [109, 101, 115, 115, 97, 103, 101]) && (sub.cps.toList == [114, 102, 99, 56, 50, 50])) = false
  seven : sevenB d = true
  len : d.length ≤ 1000
section
variable {X : Cx} {env : Env} {A : Around} {vm vmc vm' : List (Str × PV)} {gl : Option (Str × List PV)} {k k₁ k' : TS} {n : Nat}
/-- bytes([ord(sign) for sign in x]) -/
theorem ev_ords0 {fn elt iter tgt : PySem.Expr} {scope : Scope} {pos pos' : Pos} {x : Str} (R : Room A 0) (hf : EvE X env A vm gl k fn (.glob (.type "bytes")) k) (h : EvE X env A vm gl k iter (.str x) k) (hx : ∀ c ∈ x.cps.toList, c < 128) (hz : x.cps.toList.length ≤ 1000000)
    (hc : ∀ C, CompEx X (compEnvC scope [] C env) A elt [⟨tgt, iter, [], 0⟩] (chars x) [] k (x.cps.toList.map fun c : Nat => PV.int (c : Int)) k)
    (hclos : closureFor scope env = pure [] := by rfl) (hok : scopeOk scope = true := by kernel_rfl) (hs : ∀ x, foldedSetIterable iter env x = pure x := by intro _; rfl)
    (he : starEach [.ListComp elt [⟨tgt, iter, [], 0⟩] scope pos] env = (false, eval (.ListComp elt [⟨tgt, iter, [], 0⟩] scope pos) env) :: starEach [] env := by rfl)
    (hsh : eval (.Call fn [.ListComp elt [⟨tgt, iter, [], 0⟩] scope pos] [] pos') env = (eval fn env >>= fun u => callWith pos' u [] (backTo pos' (starEach [.ListComp elt [⟨tgt, iter, [], 0⟩] scope pos] env)) []) := by rfl) : EvE X env A vm gl k (.Call fn [.ListComp elt [⟨tgt, iter, [], 0⟩] scope pos] [] pos') (.bytes (tb x)) k := by
  rw [ints_map] at hc
  have := call1 (k₁ := k) (k₂ := k) (k₃ := k) (pos := pos') hf callee_val (ev_comp1 (pos := pos) h (iter_str R.hh) hc (by rw [List.length_map, List.length_map]; unfold sizeLine; omega) hclos hok hs) (bytes_l R.hh (by intro m hm; rw [List.mem_map] at hm; obtain ⟨c, hc, rfl⟩ := hm; have := hx c hc; omega) (by rw [List.length_map]; unfold sizeLine; omega)) he hsh
  rw [tb_map] at this
  exact this
theorem f_leaf_octets {top sub : Str} {o : Option (Str × Str)} {fs : List Fd} {d : List UInt8} (h : LeafOk top sub o fs d) : FSpec X (n + 7) (.ref 565) [leafPV (kindPV top sub (.dict X.w.params (pks o) (pvs o))) d (.tup (fs.map fieldPV))] k (.bytes (leafB top sub o fs d)) k :=
  fspec o_630 (sBody (stm 95)) [(s_leaf, leafPV (kindPV top sub (.dict X.w.params (pks o) (pvs o))) d (.tup (fs.map fieldPV)))] (.ret (.bytes (leafB top sub o fs d)) k) (bind1 fun v => by kernel_rfl) (fun L => kinds1 (by kernel_rfl))
    (fun L A R => by
      have hz := h.len
      have hH := headB_len h.kind h.fields
      exact ex_seq (ex_assign (ev_attr (i := 0) ev_nm (by kernel_rfl) rfl rfl (by kernel_rfl)) (asg_name (by kernel_rfl)))
        (ex_guard ((evb_bool (evt_or (evb_val (ev_meth ev_nm (meth_inst (f := 265) (by kernel_rfl) (by kernel_rfl)) (callee_k (by kernel_rfl)) a0 (fsum (n := 1) f_is_multi (by omega) R)) tr_bool) fun _ => evt_or (evb_val (ev_meth ev_nm (meth_inst (f := 272) (by kernel_rfl) (by kernel_rfl)) (callee_k (by kernel_rfl)) a0 (fsum (n := 1) f_is_letter (by omega) R)) tr_bool) fun _ => evt_or_nil)).cast (by rw [h.multi, h.letter]; rfl))
        (ex_seq (ex_assign (call2 g_choose_encoding c_choose_encoding (ev_attr (i := 1) ev_nm (by kernel_rfl) rfl rfl (by kernel_rfl)) (ev_meth ev_nm (meth_inst (f := 279) (by kernel_rfl) (by kernel_rfl)) (callee_k (by kernel_rfl)) a0 (fsum (n := 1) f_is_text (by omega) R)) (fsum (n := 3) (f_choose h.seven (by omega)) (by omega) R)) (asg_name (by kernel_rfl)))
        (ex_stop (ex_ret (ev_bin (call3 g_head_octets c_head_octets (ev_attr (i := 2) ev_nm (by kernel_rfl) rfl rfl (by kernel_rfl)) ev_nm ev_nm (fsum (n := 6) (f_head_octets h.kind h.ct h.fields) (by omega) R))
          (call3 g_in_encoding c_in_encoding ev_nm (ev_attr (i := 1) ev_nm (by kernel_rfl) rfl rfl (by kernel_rfl)) (ev_meth ev_nm (meth_inst (f := 279) (by kernel_rfl) (by kernel_rfl)) (callee_k (by kernel_rfl)) a0 (fsum (n := 1) f_is_text (by omega) R)) (fsum (n := 1) f_in_encoding (by omega) R)) (bin_addb (by omega)))))))) ⟨rfl, rfl⟩
set_option maxHeartbeats 4000000 in
theorem f_joined_bodies {bs : List (List UInt8)} {b : Str} (hb : ∀ c ∈ b.cps.toList, c < 128) (hbl : b.cps.toList.length ≤ 100) (hz : ∀ x ∈ bs, x.length ≤ 1000000) (hn : bs.length ≤ 10) : FSpec X (n + 1) (.ref 570) [.list (bs.map .bytes), .str b] k (.bytes (joinB bs (markOf b))) k :=
  fspec o_635 (sBody (stm 96)) [(s_bodies, .list (bs.map .bytes)), (s_boundary, .str b)] (.ret (.bytes (joinB bs (markOf b))) k) (bind2 fun v u => by kernel_rfl) (fun L => ⟨.inl (by kernel_rfl), rfl, .inl (by kernel_rfl), rfl, trivial⟩)
    (fun L A R => by
      have hl := tb_len b
      have hm : (markOf b).length ≤ 102 := by simp only [markOf, List.length_append, List.length_cons, List.length_nil]; omega
      have hpart : ∀ x ∈ bs.map (fun x => markOf b ++ [13, 10] ++ x ++ [13, 10]), x.length ≤ 1000200 := by
        intro y hy
        rw [List.mem_map] at hy
        obtain ⟨x, hx, rfl⟩ := hy
        have := hz x hx
        simp only [List.length_append, List.length_cons, List.length_nil]; omega
      have hflat := flat_le hpart
      rw [List.length_map] at hflat
      have hsum := sum_le (l := (bs.map (fun x => markOf b ++ [13, 10] ++ x ++ [13, 10])).map List.length) (m := 1000200) (by intro x hx; rw [List.mem_map] at hx; obtain ⟨y, hy, rfl⟩ := hx; exact hpart y hy)
      rw [List.length_map, List.length_map] at hsum
      exact ex_seq (ex_assign (ev_bin ev_bytes (ev_ords0 (R.le (by omega)) g_bytes ev_nm hb (by omega) (fun C => cmap b.cps.toList (fun c : Nat => .str ⟨#[c]⟩) (fun c : Nat => .int (c : Int)) (fun c => [(s_sign, .str ⟨#[c]⟩)]) (fun c _ => asg_name (by kernel_rfl)) (fun c _ => sub_tl) (fun c _ => call1 g_ord callee_val ev_nm ord_c))) (bin_addb (by simp only [List.length_cons, List.length_nil]; omega))) (asg_cell (by kernel_rfl) (by kernel_rfl)))
        (ex_stop (ex_ret (ev_bin (ev_bin (ev_bin ((ev_methE rfl ev_bytes m_bjoin callee_val (a1 (ev_compC (rs := (bs.map fun x => markOf b ++ [13, 10] ++ x ++ [13, 10]).map .bytes) (vmc := [(s_mark, .bytes (markOf b))]) (cl := [(s_mark, L + 1)]) ev_nm (iter_list R.hh) (by rfl) (subc1 (by kernel_rfl)) (cap1 lk0 (by kernel_rfl) (by kernel_rfl))
            (fun C => cmap bs .bytes (fun x => .bytes (markOf b ++ [13, 10] ++ x ++ [13, 10])) (fun x => [(s_body, .bytes x), (s_mark, .bytes (markOf b))]) (fun c _ => asg_name (by kernel_rfl)) (fun c _ => sub_tl)
              (fun x hx => by
                have hzx := hz x hx
                exact ev_bin (ev_bin (ev_bin ev_nm g_CRLF (bin_addb (by simp only [List.length_cons, List.length_nil]; omega))) ev_nm (bin_addb (by simp only [List.length_append, List.length_cons, List.length_nil]; omega))) g_CRLF (bin_addb (by simp only [List.length_append, List.length_cons, List.length_nil]; omega))) rfl (by rw [List.map_map]; rfl)) (by rw [List.length_map, List.length_map]; unfold sizeLine; omega))) (join_b (by simp only [List.length_nil]; omega))).cast (by rw [bjoin_nil]))
          ev_nm (bin_addb (by omega))) ev_bytes (bin_addb (by simp only [List.length_append, List.length_cons, List.length_nil]; omega))) g_CRLF (bin_addb (by simp only [List.length_append, List.length_cons, List.length_nil]; omega)))))) ⟨rfl, rfl⟩
end
theorem bnd_all : ∀ i < 9, ((bnd i).cps.toList.all (fun c => decide (c < 128)) && decide ((bnd i).cps.toList.length ≤ 20)) = true := by decide +kernel
theorem bnd_small {i : Nat} (h : i < 9) : (∀ c ∈ (bnd i).cps.toList, c < 128) ∧ (bnd i).cps.toList.length ≤ 20 := by
  have := bnd_all i h
  rw [Bool.and_eq_true, List.all_eq_true] at this
  exact ⟨fun c hc => by simpa using this.1 c hc, by simpa using this.2⟩
theorem num_len : ∀ i : Nat, i < 9 → ((toString (i : Int) : String) : Str).length ≤ 20 ∧ (i : Int).natAbs.log2 < 1920 := by decide +kernel
section
variable {X : Cx} {env : Env} {A : Around} {vm vmc vm' : List (Str × PV)} {gl : Option (Str × List PV)} {k k₁ k' : TS} {n : Nat}
theorem f_boundary_for {bs : List (List UInt8)} {N : Nat} (hN : N < 8) (hlt : ∀ i < N, (bs.filter fun b => beginsB b (markOf (bnd i))).isEmpty = false) (hn : (bs.filter fun b => beginsB b (markOf (bnd N))).isEmpty = true) (hz : ∀ x ∈ bs, x.length ≤ 900000) (hl : bs.length ≤ 10) :
    FSpec X (n + 3) (.ref 546) [.list (bs.map .bytes)] k (.str (bnd N)) k :=
  fspec o_611 (sBody (stm 92)) [(s_bodies, .list (bs.map .bytes))] (.ret (.str (bnd N)) k) (bind1 fun v => by kernel_rfl) (fun L => kinds1 (by kernel_rfl))
    (fun L A R => by
      refine ex_seq (ex_assign ev_int (asg_name (by kernel_rfl))) (ex_stop (ex_while (while_fold (fun i : Nat => [(s_number, .int (i : Int)), (s_bodies, .list (bs.map .bytes))]) (fun _ => none) (fun i => i ≤ N) (fun i => N - i) _ _ (fun i _ => evb_val ev_bool tr_bool) (fun i hi => ?_) 0 (Nat.zero_le _))))
      obtain ⟨hb1, hb2⟩ := bnd_small (i := i) (by omega)
      obtain ⟨hs1, hs2⟩ := num_len i (by omega)
      have hl1 := tb_len (bnd i)
      have hq : s_Q_part.length ≤ 100 := by decide
      by_cases he : i = N
      · left
        subst he
        exact ex_seq (ex_assign (p := .str (bnd i)) (ev_bin g_BOUNDARY_LEAD (call1 g_str callee_val ev_nm (str_i hs2)) (bin_adds (by unfold sizeLine; omega))) (asg_name (by kernel_rfl)))
          (ex_seq (ex_assign (ev_bin ev_bytes (ev_ords0 (R.le (by omega)) g_bytes ev_nm hb1 (by omega) (fun C => cmap (bnd i).cps.toList (fun c : Nat => .str ⟨#[c]⟩) (fun c : Nat => .int (c : Int)) (fun c => [(s_sign, .str ⟨#[c]⟩)]) (fun c _ => asg_name (by kernel_rfl)) (fun c _ => sub_tl) (fun c _ => call1 g_ord callee_val ev_nm ord_c))) (bin_addb (by simp only [List.length_cons, List.length_nil]; omega))) (asg_cell (by kernel_rfl) (by kernel_rfl)))
          (ex_stop (ex_if (c := true) ((evb_cmp (ev_compC (vmc := [(s_mark, .bytes (markOf (bnd i)))]) (cl := [(s_mark, L + 1)]) ev_nm (iter_list R.hh) (by rfl) (subc1 (by kernel_rfl)) (cap1 lk0 (by kernel_rfl) (by kernel_rfl))
            (fun C => cfilter bs .bytes (fun _ => .int 1) (fun b => beginsB b (markOf (bnd i))) (fun b => [(s_body, .bytes b), (s_mark, .bytes (markOf (bnd i)))]) (fun c _ => asg_name (by kernel_rfl)) (fun c _ => sub_tl)
              (fun b hb => evb_val (call2 g_begins_line c_begins_line ev_nm ev_nm (fsum (n := 2) (f_begins_line (hz b hb) (by simp only [markOf, List.length_append, List.length_cons, List.length_nil]; omega)) (by omega) R)) tr_bool) (fun b _ _ => ev_int)) (fsz (by omega))) (ev_list a0) (cmp_eqnil (R.le (by omega)))).cast (by rw [List.isEmpty_map]; exact hn)) (fun _ => ex_stop (ex_ret ev_nm)) (fun h => nomatch h))))
      · right
        refine ⟨i + 1, by omega, by omega, ?_⟩
        exact ex_seq (ex_assign (p := .str (bnd i)) (ev_bin g_BOUNDARY_LEAD (call1 g_str callee_val ev_nm (str_i hs2)) (bin_adds (by unfold sizeLine; omega))) (asg_name (by kernel_rfl)))
          (ex_seq (ex_assign (ev_bin ev_bytes (ev_ords0 (R.le (by omega)) g_bytes ev_nm hb1 (by omega) (fun C => cmap (bnd i).cps.toList (fun c : Nat => .str ⟨#[c]⟩) (fun c : Nat => .int (c : Int)) (fun c => [(s_sign, .str ⟨#[c]⟩)]) (fun c _ => asg_name (by kernel_rfl)) (fun c _ => sub_tl) (fun c _ => call1 g_ord callee_val ev_nm ord_c))) (bin_addb (by simp only [List.length_cons, List.length_nil]; omega))) (asg_cell (by kernel_rfl) (by kernel_rfl)))
          (ex_guard ((evb_cmp (ev_compC (vmc := [(s_mark, .bytes (markOf (bnd i)))]) (cl := [(s_mark, L + 1)]) ev_nm (iter_list R.hh) (by rfl) (subc1 (by kernel_rfl)) (cap1 lk0 (by kernel_rfl) (by kernel_rfl))
            (fun C => cfilter bs .bytes (fun _ => .int 1) (fun b => beginsB b (markOf (bnd i))) (fun b => [(s_body, .bytes b), (s_mark, .bytes (markOf (bnd i)))]) (fun c _ => asg_name (by kernel_rfl)) (fun c _ => sub_tl)
              (fun b hb => evb_val (call2 g_begins_line c_begins_line ev_nm ev_nm (fsum (n := 2) (f_begins_line (hz b hb) (by simp only [markOf, List.length_append, List.length_cons, List.length_nil]; omega)) (by omega) R)) tr_bool) (fun b _ _ => ev_int)) (fsz (by omega))) (ev_list a0) (cmp_eqnil (R.le (by omega)))).cast (by rw [List.isEmpty_map]; exact hlt i (by omega)))
            (ex_seq (ex_assign (ev_bin ev_nm ev_int bin_addi) (asg_name (by kernel_rfl))) ((ex_end (Sub.cons lk0 (Sub.cons lk4 Sub.nil))).cast (by rfl)))))) ⟨rfl, rfl⟩
end
noncomputable def s_message : Str := ⟨#[109, 101, 115, 115, 97, 103, 101]⟩
noncomputable def s_rfc822 : Str := ⟨#[114, 102, 99, 56, 50, 50]⟩
noncomputable def s_multipart : Str := ⟨#[109, 117, 108, 116, 105, 112, 97, 114, 116]⟩
noncomputable def mimeField : Fd := ([77, 73, 77, 69, 45, 86, 101, 114, 115, 105, 111, 110], [32, 49, 46, 48])
noncomputable def letterB (fs : List Fd) (b : List UInt8) : List UInt8 := headB s_message s_rfc822 none [] ++ (((fs ++ [mimeField]).map fieldB).flatten ++ b)
noncomputable def manyB (sub : Str) (fs : List Fd) (bs : List (List UInt8)) (N : Nat) : List UInt8 := headB s_multipart sub (some (s_boundary, bnd N)) fs ++ joinB bs (markOf (bnd N))
noncomputable def fsPV (fs : List Fd) : PV := .tup (fs.map fieldPV)
theorem fieldsOk_nil : FieldsOk [] := ⟨by simp, by simp, by simp, by simp⟩
theorem letter_kind : kindOk s_message s_rfc822 none = true ∧ soundB (ctField s_message s_rfc822 none) = true ∧ soundB mimeField = true ∧ (fieldB mimeField).length ≤ 100 := by decide +kernel
theorem joinB_len {bs : List (List UInt8)} {m : List UInt8} {z : Nat} (hm : m.length ≤ 102) (hz : ∀ x ∈ bs, x.length ≤ z) (hn : bs.length ≤ 10) : (joinB bs m).length ≤ (z + 110) * 10 + 200 := by
  have h1 := flat_le (l := bs.map fun b => m ++ [13, 10] ++ b ++ [13, 10]) (m := z + 110) (by
    intro y hy
    rw [List.mem_map] at hy
    obtain ⟨x, hx, rfl⟩ := hy
    have := hz x hx
    simp only [List.length_append, List.length_cons, List.length_nil]; omega)
  rw [List.length_map] at h1
  have h2 : (z + 110) * bs.length ≤ (z + 110) * 10 := Nat.mul_le_mul_left _ hn
  unfold joinB
  rw [List.length_append, List.length_append, List.length_append]
  simp only [List.length_cons, List.length_nil]
  omega
structure ManyOk (sub : Str) (fs : List Fd) (bs : List (List UInt8)) (N : Nat) : Prop where
  num : N < 8
  lt : ∀ i < N, (bs.filter fun b => beginsB b (markOf (bnd i))).isEmpty = false
  no : (bs.filter fun b => beginsB b (markOf (bnd N))).isEmpty = true
  kind : kindOk s_multipart sub (some (s_boundary, bnd N)) = true
  ct : soundB (ctField s_multipart sub (some (s_boundary, bnd N))) = true
  fields : FieldsOk fs
  len : ∀ x ∈ bs, x.length ≤ 900000
  few : bs.length ≤ 10
  some : bs ≠ []
section
variable {X : Cx} {env : Env} {A : Around} {vm vmc vm' : List (Str × PV)} {gl : Option (Str × List PV)} {k k₁ k' : TS} {n : Nat}
noncomputable def Built (X : Cx) (n : Nat) (p : PV) (b : List UInt8) : Prop := ∀ k, FSpec X n (.ref 589) [p] k (.bytes b) k
theorem f_letter_whole {fs : List Fd} {p : PV} {b : List UInt8} (hb : Built X n p b) (hf : FieldsOk fs) (h6 : 6 ≤ n) (hbl : b.length ≤ 900000) : FSpec X (n + 1) (.ref 596) [p, fsPV fs] k (.bytes (((fs ++ [mimeField]).map fieldB).flatten ++ b)) k :=
  fspec o_661 (sBody (stm 100)) [(s_piece, p), (s_fields, fsPV fs)] (.ret (.bytes (((fs ++ [mimeField]).map fieldB).flatten ++ b)) k) (bind2 fun v u => by kernel_rfl) (fun L => ⟨.inl (by kernel_rfl), rfl, .inl (by kernel_rfl), rfl, trivial⟩)
    (fun L A R => by
      have hfew := hf.few
      obtain ⟨m1, m2, m3, m4⟩ := letter_kind
      have hall : ∀ f ∈ fs ++ [mimeField], (fieldB f).length ≤ 1000 := by
        intro f hm
        rcases List.mem_append.mp hm with hm | hm
        · exact hf.len f hm
        · simp at hm; subst hm; omega
      have hfl := flat_le (l := (fs ++ [mimeField]).map fieldB) (m := 1000) (by intro x hx; rw [List.mem_map] at hx; obtain ⟨f, hf, rfl⟩ := hx; exact hall f hf)
      rw [List.length_map, List.length_append] at hfl
      simp only [List.length_cons, List.length_nil] at hfl
      exact ex_seq (ex_expr (call1 g_check_fields c_check_fields ev_nm (fsum (n := 5) (f_check_fields hf.word (fun f hm => by have := hf.len f hm; rw [fieldB_len] at this; omega) (by omega)) (by omega) R)))
        (ex_stop (ex_ret (ev_bin (call1 g_write_fields c_write_fields ((ev_bin (call1 g_list callee_val ev_nm (list_of (.inr rfl) (by rw [List.length_map]; unfold sizeLine; omega))) (ev_list (ps := [fieldPV mimeField]) (a1 (call2 g_Field c_Field ev_bytes ev_bytes (mk_Field R)))) (bin_addl (by rw [List.length_map]; simp only [List.length_cons, List.length_nil]; omega))).cast (q := .list ((fs ++ [mimeField]).map fieldPV)) (by rw [List.map_append]; rfl))
            (fsum (n := 4) (f_write_fields (by intro f hm; rcases List.mem_append.mp hm with hm | hm; exact hf.sound f hm; simp at hm; subst hm; exact m3) (fun f hm => by have := hall f hm; omega) (by rw [List.length_append]; simp only [List.length_cons, List.length_nil]; omega)) (by omega) R))
          (call1 g_built c_built ev_nm (fsum (n := n) (hb _) (by omega) R)) (bin_addb (by omega)))))) ⟨rfl, rfl⟩
theorem f_letter_octets {fs : List Fd} {p : PV} {b : List UInt8} (hb : Built X n p b) (hpl : plainPV p = true) (hf : FieldsOk fs) (h6 : 6 ≤ n) (hbl : b.length ≤ 500000) : FSpec X (n + 2) (.ref 582) [letterPV p (fsPV fs)] k (.bytes (letterB fs b)) k :=
  fspec o_647 (sBody (stm 98)) [(s_letter, letterPV p (fsPV fs))] (.ret (.bytes (letterB fs b)) k) (bind1 fun v => by kernel_rfl) (fun L => kinds1 (by kernel_rfl))
    (fun L A R => by
      have hfew := hf.few
      obtain ⟨m1, m2, m3, m4⟩ := letter_kind
      have hH := headB_len m1 fieldsOk_nil
      have hall : ∀ f ∈ fs ++ [mimeField], (fieldB f).length ≤ 1000 := by
        intro f hm
        rcases List.mem_append.mp hm with hm | hm
        · exact hf.len f hm
        · simp at hm; subst hm; omega
      have hfl := flat_le (l := (fs ++ [mimeField]).map fieldB) (m := 1000) (by intro x hx; rw [List.mem_map] at hx; obtain ⟨f, hf, rfl⟩ := hx; exact hall f hf)
      rw [List.length_map, List.length_append] at hfl
      simp only [List.length_cons, List.length_nil] at hfl
      exact ex_stop (ex_ret (ev_bin (call3 g_head_octets c_head_octets (ev_tuple a0) (call3 g_Kind c_Kind ev_str ev_str ev_dict0 (mk_Kind R)) g_PLAIN_ENCODING (fsum (n := 6) (f_head_octets (top := s_message) (sub := s_rfc822) (fs := []) (o := none) m1 m2 fieldsOk_nil) (by omega) R))
        (call2 g_letter_whole c_letter_whole (ev_attr (i := 0) ev_nm (by kernel_rfl) rfl hpl (by kernel_rfl)) (ev_attr (i := 1) ev_nm (by kernel_rfl) rfl rfl (by kernel_rfl)) (fsum (n := n + 1) (f_letter_whole hb hf h6 (by omega)) (by omega) R)) (bin_addb (by rw [List.length_append]; omega))))) ⟨rfl, rfl⟩
theorem f_many_octets {sub : Str} {fs : List Fd} {ps : List (PV × List UInt8)} {N : Nat} (h : ManyOk sub fs (ps.map (·.2)) N) (hb : ∀ q ∈ ps, Built X n q.1 q.2) (h6 : 6 ≤ n) : FSpec X (n + 1) (.ref 575) [manyPV sub (ps.map (·.1)) (fsPV fs)] k (.bytes (manyB sub fs (ps.map (·.2)) N)) k :=
  fspec o_640 (sBody (stm 97)) [(s_many, manyPV sub (ps.map (·.1)) (fsPV fs))] (.ret (.bytes (manyB sub fs (ps.map (·.2)) N)) k) (bind1 fun v => by kernel_rfl) (fun L => kinds1 (by kernel_rfl))
    (fun L A R => by
      have hfew := h.few
      rw [List.length_map] at hfew
      have hne : ps.length ≠ 0 := fun e => h.some (by rw [List.length_eq_zero_iff.mp e]; rfl)
      obtain ⟨hb1, hb2⟩ := bnd_small (i := N) (by have := h.num; omega)
      have hH := headB_len h.kind h.fields
      have hJ := joinB_len (m := markOf (bnd N)) (by have := tb_len (bnd N); simp only [markOf, List.length_append, List.length_cons, List.length_nil]; omega) h.len h.few
      exact ex_guard ((evb_cmp (call1 g_len callee_val (ev_attr (i := 1) ev_nm (by kernel_rfl) rfl rfl (by kernel_rfl)) (len_l (by rw [List.length_map]; omega))) ev_int cmp_eqi).cast (by rw [List.length_map]; simp; intro e; exact hne (by simp [e])))
        (ex_seq (ex_acomp (rs := (ps.map (·.2)).map .bytes) (ev_attr (i := 1) ev_nm (by kernel_rfl) rfl rfl (by kernel_rfl)) (iter_list R.hh) (fun C => cmap ps (·.1) (fun q => .bytes q.2) (fun q => [(s_piece, q.1)]) (fun c _ => asg_name (by kernel_rfl)) (fun c _ => sub_tl) (fun q hq => call1 g_built c_built ev_nm (fsum (n := n) (hb q hq _) (by omega) R)) rfl (by rw [List.map_map]; rfl))
            (by rw [List.length_map, List.length_map]; unfold sizeLine; omega) (asg_name (by kernel_rfl)))
        (ex_seq (ex_assign (call1 g_boundary_for c_boundary_for ev_nm (fsum (n := 3) (f_boundary_for h.num h.lt h.no h.len h.few) (by omega) R)) (asg_name (by kernel_rfl)))
        (ex_seq (ex_assign (call3 g_Kind c_Kind ev_str (ev_attr (i := 0) ev_nm (by kernel_rfl) rfl rfl (by kernel_rfl)) (ev_dict1 ev_str ev_nm) (mk_Kind R)) (asg_name (by kernel_rfl)))
        (ex_stop (ex_ret (ev_bin (call3 g_head_octets c_head_octets (ev_attr (i := 2) ev_nm (by kernel_rfl) rfl rfl (by kernel_rfl)) ev_nm g_PLAIN_ENCODING (fsum (n := 6) (f_head_octets (top := s_multipart) (o := some (s_boundary, bnd N)) h.kind h.ct h.fields) (by omega) R))
          (call2 g_joined_bodies c_joined_bodies ev_nm ev_nm (fsum (n := 1) (f_joined_bodies hb1 (by omega) (fun x hx => by have := h.len x hx; omega) h.few) (by omega) R)) (bin_addb (by omega))))))))) ⟨rfl, rfl⟩
end
section
variable {X : Cx} {env : Env} {A : Around} {vm vmc vm' : List (Str × PV)} {gl : Option (Str × List PV)} {k k₁ k' : TS} {n : Nat}
theorem f_built_leaf {top sub : Str} {o : Option (Str × Str)} {fs : List Fd} {d : List UInt8} (h : LeafOk top sub o fs d) : Built X (n + 8) (leafPV (kindPV top sub (.dict X.w.params (pks o) (pvs o))) d (fsPV fs)) (leafB top sub o fs d) := fun k =>
  fspec o_654 (sBody (stm 99)) [(s_piece, leafPV (kindPV top sub (.dict X.w.params (pks o) (pvs o))) d (fsPV fs))] (.ret (.bytes (leafB top sub o fs d)) k) (bind1 fun v => by kernel_rfl) (fun L => kinds1 (by kernel_rfl))
    (fun L A R => ex_guard (evb_val (call2 g_isinstance callee_val ev_nm g_Many (isi_false (by kernel_rfl))) tr_bool)
      (ex_stop (ex_ret (ev_ifexp (c := false) (evb_val (call2 g_isinstance callee_val ev_nm g_Letter822 (isi_false (by kernel_rfl))) tr_bool) (fun h => nomatch h) (fun _ => call1 g_leaf_octets c_leaf_octets ev_nm (fsum (n := 7) (f_leaf_octets h) (by omega) R)))))) ⟨rfl, rfl⟩
theorem f_built_letter {fs : List Fd} {p : PV} {b : List UInt8} (hb : Built X n p b) (hpl : plainPV p = true) (hf : FieldsOk fs) (h6 : 6 ≤ n) (hbl : b.length ≤ 500000) : Built X (n + 3) (letterPV p (fsPV fs)) (letterB fs b) := fun k =>
  fspec o_654 (sBody (stm 99)) [(s_piece, letterPV p (fsPV fs))] (.ret (.bytes (letterB fs b)) k) (bind1 fun v => by kernel_rfl) (fun L => kinds1 (by kernel_rfl))
    (fun L A R => ex_guard (evb_val (call2 g_isinstance callee_val ev_nm g_Many (isi_false (by kernel_rfl))) tr_bool)
      (ex_stop (ex_ret (ev_ifexp (c := true) (evb_val (call2 g_isinstance callee_val ev_nm g_Letter822 (isi_true (by kernel_rfl))) tr_bool) (fun _ => call1 g_letter_octets c_letter_octets ev_nm (fsum (n := n + 2) (f_letter_octets hb hpl hf h6 hbl) (by omega) R)) (fun h => nomatch h))))) ⟨rfl, rfl⟩
theorem f_built_many {sub : Str} {fs : List Fd} {ps : List (PV × List UInt8)} {N : Nat} (h : ManyOk sub fs (ps.map (·.2)) N) (hb : ∀ q ∈ ps, Built X n q.1 q.2) (h6 : 6 ≤ n) : Built X (n + 2) (manyPV sub (ps.map (·.1)) (fsPV fs)) (manyB sub fs (ps.map (·.2)) N) := fun k =>
  fspec o_654 (sBody (stm 99)) [(s_piece, manyPV sub (ps.map (·.1)) (fsPV fs))] (.ret (.bytes (manyB sub fs (ps.map (·.2)) N)) k) (bind1 fun v => by kernel_rfl) (fun L => kinds1 (by kernel_rfl))
    (fun L A R => ex_stop (ex_if (c := true) (evb_val (call2 g_isinstance callee_val ev_nm g_Many (isi_true (by kernel_rfl))) tr_bool) (fun _ => ex_stop (ex_ret (call1 g_many_octets c_many_octets ev_nm (fsum (n := n + 1) (f_many_octets h hb h6) (by omega) R)))) (fun h => nomatch h))) ⟨rfl, rfl⟩
theorem Built.le {n m : Nat} {p : PV} {b : List UInt8} (h : Built X n p b) (l : n ≤ m) : Built X m p b := fun k => (h k).le l
end
noncomputable def dr (cs : List Int) (i lim : Nat) : Nat := ((cs.getD (i % cs.length) 0 + ((i / cs.length : Nat) : Int) * (7 * (i : Int) + 3)).fmod (lim : Int)).toNat
theorem dr_lt {cs : List Int} {i lim : Nat} (h : 0 < lim) : dr cs i lim < lim := by
  unfold dr
  rw [Int.fmod_eq_emod_of_nonneg _ (by omega)]
  have h1 := Int.emod_lt_of_pos (cs.getD (i % cs.length) 0 + ((i / cs.length : Nat) : Int) * (7 * (i : Int) + 3)) (show (0 : Int) < lim by omega)
  have h2 := Int.emod_nonneg (cs.getD (i % cs.length) 0 + ((i / cs.length : Nat) : Int) * (7 * (i : Int) + 3)) (show (lim : Int) ≠ 0 by omega)
  omega
theorem bits_small {a : Nat} (h : a < 2 ^ 60) : Builtin.Int.intBits (a : Int) ≤ 64 := by
  unfold Builtin.Int.intBits
  split
  · omega
  · have : a.log2 < 60 := (Nat.log2_lt (by rename_i h; simp at h; exact h)).mpr h
    simp; omega
section
variable {X : Cx} {env : Env} {A : Around} {vm vmc vm' : List (Str × PV)} {gl : Option (Str × List PV)} {k k₁ k' : TS} {n : Nat}
theorem f_draw {cs : List Int} {i lim : Nat} (hc : cs ≠ []) (hl : 0 < lim) (hi : i ≤ 100000) (hz : cs.length ≤ 1000) : FSpec X (n + 1) (.ref 613) [.tape, .int (lim : Int)] (some (cs, (i : Int))) (.int (dr cs i lim : Nat)) (some (cs, ((i + 1 : Nat) : Int))) :=
  fspec o_682 (sBody (stm 104)) [(s_tape, .tape), (s_limit, .int (lim : Int))] (.ret (.int (dr cs i lim : Nat)) (some (cs, ((i + 1 : Nat) : Int)))) (bind2 fun v u => by kernel_rfl) (fun L => ⟨.inl (by kernel_rfl), rfl, .inl (by kernel_rfl), rfl, trivial⟩)
    (fun L A R => by
      have hpos : 0 < cs.length := List.length_pos_iff.mpr hc
      have e1 : (i : Int).fmod (cs.length : Int) = ((i % cs.length : Nat) : Int) := by rw [Int.fmod_eq_emod_of_nonneg _ (by omega)]; exact (Int.natCast_emod _ _).symm
      have e2 : (i : Int).fdiv (cs.length : Int) = ((i / cs.length : Nat) : Int) := by rw [Int.fdiv_eq_ediv_of_nonneg _ (by omega)]; exact (Int.natCast_ediv _ _).symm
      have hlt : i % cs.length < cs.length := Nat.mod_lt _ hpos
      have e3 : ((cs.map PV.int)[i % cs.length]?) = some (.int (cs.getD (i % cs.length) 0)) := by rw [List.getElem?_map, List.getElem?_eq_getElem hlt]; simp [List.getD, List.getElem?_eq_getElem hlt]
      have e4 : i / cs.length ≤ i := Nat.div_le_self _ _
      exact ex_seq (ex_assign (ev_tape (j := 0) ev_nm ev_int (.inl ⟨rfl, rfl⟩)) (asg_name (by kernel_rfl)))
        (ex_seq (ex_assign (ev_tape (j := 1) ev_nm ev_int (.inr ⟨rfl, rfl⟩)) (asg_name (by kernel_rfl)))
        (ex_seq (ex_tape (j := ((i + 1 : Nat) : Int)) (ev_bin ev_nm ev_int bin_addi) ev_nm ev_int)
        (ex_stop (ex_ret ((ev_bin (ev_bin (ev_sub ev_nm ((ev_bin ev_nm (call1 g_len callee_val ev_nm (len_l (by rw [List.length_map]; omega))) (bin_modi (by rw [List.length_map]; omega))).cast (by rw [List.length_map, e1])) gets_l (item_list e3 (by omega)))
            (ev_bin ((ev_bin ev_nm (call1 g_len callee_val ev_nm (len_l (by rw [List.length_map]; omega))) (bin_divi (by rw [List.length_map]; omega) (PyProof.noPylong_small (by rw [List.length_map]; omega)))).cast (by rw [List.length_map, e2])) (ev_bin (ev_bin ev_int ev_nm (bin_muli (.of_left (by decide)))) ev_int bin_addi) (bin_muli (.of_left (bits_small (by omega))))) bin_addi) ev_nm (bin_modi (by omega))).cast (by
              unfold dr
              congr 1
              rw [Int.toNat_of_nonneg]
              rw [Int.fmod_eq_emod_of_nonneg _ (by omega)]
              exact Int.emod_nonneg _ (by omega)))))))) ⟨rfl, rfl⟩
end
noncomputable def kTop : Nat → Str
  | 0 => s_text
  | 1 => s_image
  | 2 => s_text
  | _ => s_application
noncomputable def kSub : Nat → Str
  | 0 => s_plain
  | 1 => s_png
  | 2 => s_x
  | _ => s_y
noncomputable def kPar : Nat → Option (Str × Str)
  | 0 => none
  | 1 => none
  | 2 => some (s_a, s_b)
  | _ => some (s_n, s_aQb)
noncomputable def kWords : Nat → List UInt8
  | 0 => [116, 101, 120, 116, 47, 112, 108, 97, 105, 110]
  | 1 => [105, 109, 97, 103, 101, 47, 112, 110, 103]
  | 2 => [116, 101, 120, 116, 47, 120, 59, 13, 10, 32, 97, 61, 98]
  | _ => [97, 112, 112, 108, 105, 99, 97, 116, 105, 111, 110, 47, 121, 59, 13, 10, 32, 110, 61, 34, 97, 32, 98, 34]
noncomputable def lawFields : Nat → List Fd
  | 0 => []
  | 1 => [([88, 45, 65], [32, 49])]
  | _ => [([83, 117, 98, 106, 101, 99, 116], [32, 115, 13, 10, 32, 116]), ([121], [])]
noncomputable def toldFields : Nat → List UInt8
  | 0 => []
  | 1 => [88, 45, 65, 58, 32, 49, 13, 10]
  | _ => [83, 117, 98, 106, 101, 99, 116, 58, 32, 115, 13, 10, 32, 116, 13, 10, 121, 58, 13, 10]
noncomputable def octs (u : Nat) : List UInt8 := lawOctets.getD u []
noncomputable def leafDue (w v u : Nat) : List UInt8 := [67, 111, 110, 116, 101, 110, 116, 45, 84, 121, 112, 101, 58, 32] ++ kWords v ++ [13, 10] ++ toldFields w ++ [13, 10] ++ octs u
noncomputable def lfPV (P : Params) (w v u : Nat) : PV := leafPV (kindPV (kTop v) (kSub v) (.dict P (pks (kPar v)) (pvs (kPar v)))) (octs u) (fsPV (lawFields w))
noncomputable def fieldsTab : List PV := [.tup [fsPV (lawFields 0), .bytes (toldFields 0)], .tup [fsPV (lawFields 1), .bytes (toldFields 1)], .tup [fsPV (lawFields 2), .bytes (toldFields 2)]]
theorem fieldsTab_at {w : Nat} (h : w < 3) : fieldsTab[w]? = some (.tup [fsPV (lawFields w), .bytes (toldFields w)]) := by
  rcases w with _ | _ | _ | w
  · rfl
  · rfl
  · rfl
  · omega
theorem lawKinds_at {P : Params} {v : Nat} (h : v < 4) : ((lawKinds P).map PV.tup)[v]? = some (PV.tup [.str (kTop v), .str (kSub v), .dict P (pks (kPar v)) (pvs (kPar v)), .bytes (kWords v)]) := by
  rcases v with _ | _ | _ | _ | v
  · rfl
  · rfl
  · rfl
  · rfl
  · omega
theorem lawOctets_at {u : Nat} (h : u < 6) : (lawOctets.map PV.bytes)[u]? = some (PV.bytes (octs u)) := by
  rcases u with _ | _ | _ | _ | _ | _ | u
  · rfl
  · rfl
  · rfl
  · rfl
  · rfl
  · rfl
  · omega
theorem pks_few (v : Nat) : (pks (kPar v)).Nodup ∧ (pvs (kPar v)).length ≤ 1000 := by
  rcases v with _ | _ | _ | v <;> simp [kPar, pks, pvs]
theorem due_small : ∀ w < 3, ∀ v < 4, ∀ u < 6, (leafDue w v u).length ≤ 300 := by decide +kernel
section
variable {X : Cx} {env : Env} {A : Around} {vm vmc vm' : List (Str × PV)} {gl : Option (Str × List PV)} {k k₁ k' : TS} {n : Nat}
noncomputable abbrev tp (cs : List Int) (i : Nat) : TS := some (cs, (i : Int))
structure TapeOk (cs : List Int) (i : Nat) : Prop where
  ne : cs ≠ []
  len : cs.length ≤ 1000
  at_ : i ≤ 50000
theorem TapeOk.up {cs : List Int} {i j : Nat} (h : TapeOk cs i) (hj : j ≤ 50000) : TapeOk cs j := ⟨h.ne, h.len, hj⟩
theorem f_draw' {cs : List Int} {i lim : Nat} (h : TapeOk cs i) (hl : 0 < lim) : FSpec X (n + 1) (.ref 613) [.tape, .int (lim : Int)] (tp cs i) (.int (dr cs i lim : Nat)) (tp cs (i + 1)) := f_draw h.ne hl (by have := h.at_; omega) h.len
theorem f_law_fields {cs : List Int} {i : Nat} (h : TapeOk cs i) : FSpec X (n + 2) (.ref 620) [.tape] (tp cs i) (.tup [fsPV (lawFields (dr cs i 3)), .bytes (toldFields (dr cs i 3))]) (tp cs (i + 1)) :=
  fspec o_689 (sBody (stm 105)) [(s_tape, .tape)] (.ret (.tup [fsPV (lawFields (dr cs i 3)), .bytes (toldFields (dr cs i 3))]) (tp cs (i + 1))) (bind1 fun v => by kernel_rfl) (fun L => kinds1 (by kernel_rfl))
    (fun L A R => (ex_seq (ex_assign (call2 g__law_draw c__law_draw ev_nm ev_int (fsum (n := 1) (f_draw' (lim := 3) h (by omega)) (by omega) R)) (asg_name (by kernel_rfl)))
      (ex_stop (ex_ret (ev_sub (ev_list (ps := fieldsTab) (a3 (ev_tuple (a2 (ev_tuple a0) ev_bytes)) (ev_tuple (a2 (ev_tuple (a1 (call2 g_Field c_Field ev_bytes ev_bytes (mk_Field R)))) ev_bytes)) (ev_tuple (a2 (ev_tuple (a2 (call2 g_Field c_Field ev_bytes ev_bytes (mk_Field R)) (call2 g_Field c_Field ev_bytes ev_bytes (mk_Field R)))) ev_bytes)))
        (by simp [fieldsTab, sizeLine])) ev_nm gets_l (item_list (fieldsTab_at (dr_lt (by omega))) (by have := dr_lt (cs := cs) (i := i) (lim := 3) (by omega); omega))))) : Ex X _ A _ _ _ _ _)) ⟨rfl, rfl⟩
theorem f_law_leaf {cs : List Int} {i : Nat} (h : TapeOk cs i) (hi : i ≤ 40000) : FSpec X (n + 3) (.ref 627) [.tape] (tp cs i) (.tup [lfPV X.w.params (dr cs i 3) (dr cs (i + 1) 4) (dr cs (i + 2) 6), .bytes (leafDue (dr cs i 3) (dr cs (i + 1) 4) (dr cs (i + 2) 6))]) (tp cs (i + 3)) :=
  fspec o_696 (sBody (stm 106)) [(s_tape, .tape)] (.ret (.tup [lfPV X.w.params (dr cs i 3) (dr cs (i + 1) 4) (dr cs (i + 2) 6), .bytes (leafDue (dr cs i 3) (dr cs (i + 1) 4) (dr cs (i + 2) 6))]) (tp cs (i + 3))) (bind1 fun v => by kernel_rfl) (fun L => kinds1 (by kernel_rfl))
    (fun L A R => by
      have b1 := dr_lt (cs := cs) (i := i) (lim := 3) (by omega)
      have b2 := dr_lt (cs := cs) (i := i + 1) (lim := 4) (by omega)
      have b3 := dr_lt (cs := cs) (i := i + 2) (lim := 6) (by omega)
      have hd := due_small _ b1 _ b2 _ b3
      unfold leafDue at hd
      simp only [List.length_append] at hd
      exact ex_seq (ex_assign (call1 g__law_fields c__law_fields ev_nm (fsum (n := 2) (f_law_fields h) (by omega) R)) (asg_tup R.hh (.cons (asg_name (by kernel_rfl)) (.cons (asg_name (by kernel_rfl)) .nil))))
        (ex_seq (ex_assign (ev_sub g__law_kinds (call2 g__law_draw c__law_draw ev_nm ev_int (fsum (n := 1) (f_draw' (lim := 4) (h.up (j := i + 1) (by omega)) (by omega)) (by omega) R)) gets_t (item_tup (lawKinds_at b2) (Nat.lt_trans b2 (by decide)))) (asg_tup R.hh (.cons (asg_name (by kernel_rfl)) (.cons (asg_name (by kernel_rfl)) (.cons (asg_name (by kernel_rfl)) (.cons (asg_name (by kernel_rfl)) .nil))))))
        (ex_seq (ex_assign (ev_sub g__law_octets (call2 g__law_draw c__law_draw ev_nm ev_int (fsum (n := 1) (f_draw' (lim := 6) (h.up (j := i + 2) (by omega)) (by omega)) (by omega) R)) gets_t (item_tup (lawOctets_at b3) (Nat.lt_trans b3 (by decide)))) (asg_name (by kernel_rfl)))
        (ex_stop (ex_ret (ev_tuple (a2 (call3 g_Leaf c_Leaf (call3 g_Kind c_Kind ev_nm ev_nm (call1 g_dict callee_val ev_nm (dict_of (pks_few _).1 (pks_few _).2)) (mk_Kind R)) ev_nm ev_nm (mk_Leaf R))
          (ev_bin (ev_bin (ev_bin (ev_bin (ev_bin ev_bytes ev_nm (bin_addb (by omega))) ev_bytes (bin_addb (by simp only [List.length_append]; omega))) ev_nm (bin_addb (by simp only [List.length_append]; omega))) ev_bytes (bin_addb (by simp only [List.length_append]; omega))) ev_nm (bin_addb (by simp only [List.length_append]; omega)))))))))) ⟨rfl, rfl⟩
end
noncomputable def splitNl : List UInt8 → List (List UInt8)
  | [] => [[]]
  | c :: r => if c = 10 then [] :: splitNl r else match splitNl r with
    | [] => [[c]]
    | h :: t => (c :: h) :: t
noncomputable def ext (l : List UInt8) (a b : Nat) : List UInt8 := (l.drop a).take (b - a)
theorem splitNl_ne (l : List UInt8) : splitNl l ≠ [] := by
  cases l with
  | nil => simp [splitNl]
  | cons c r => unfold splitNl; split; simp; split <;> simp
theorem splitNl_cons {l : List UInt8} : ∃ h t, splitNl l = h :: t := by
  cases e : splitNl l with
  | nil => exact absurd e (splitNl_ne l)
  | cons h t => exact ⟨h, t, rfl⟩
theorem ext_arr (bl : List UInt8) (a b : Nat) : (bl.toArray.extract a b).toList = ext bl a b := by
  rw [Array.toList_extract]; simp [ext, List.extract_eq_take_drop]
theorem ext_one {bl : List UInt8} {j : Nat} (h : j < bl.length) : bl.toArray.extract j (j + 1) = #[bl[j]] := by
  rw [← Array.toList_inj, ext_arr]
  unfold ext
  rw [List.drop_eq_getElem_cons h, show j + 1 - j = 1 by omega]; rfl
noncomputable def isNl (bl : List UInt8) (i : Nat) : Bool := bl.toArray.extract i (i + 1) == #[10]
theorem isNl_iff {bl : List UInt8} {j : Nat} (h : j < bl.length) : isNl bl j = (bl[j] == 10) := by
  unfold isNl; rw [ext_one h]
  by_cases e : bl[j] = 10
  · rw [e]; simp
  · have h1 : (bl[j] == 10) = false := by simpa using e
    rw [h1]
    have : (#[bl[j]] : Array UInt8) ≠ #[10] := fun q => e (by simpa using q)
    simpa using this
theorem occ_go (bl : List UInt8) : ∀ (m j : Nat) (acc : List Nat) (nx : Nat), nx ≤ j →
    ((List.range' j m).foldl (fun (acc : List Nat × Nat) (i : Nat) => if i ≥ acc.2 && bl.toArray.extract i (i + 1) == #[10] then (i :: acc.1, i + 1) else acc) (acc, nx)).1 = ((List.range' j m).filter (isNl bl)).reverse ++ acc
  | 0, j, acc, nx, _ => by simp
  | m + 1, j, acc, nx, h => by
    rw [List.range'_succ, List.foldl_cons]
    dsimp only
    by_cases q : isNl bl j = true
    · have hq : (decide (j ≥ nx) && bl.toArray.extract j (j + 1) == #[10]) = true := by unfold isNl at q; rw [q]; simp; exact h
      rw [if_pos hq, occ_go bl m (j + 1) _ _ (Nat.le_refl _), List.filter_cons, if_pos q]; simp
    · have hq : ¬ (decide (j ≥ nx) && bl.toArray.extract j (j + 1) == #[10]) = true := by unfold isNl at q; simp at q ⊢; intro _; exact q
      rw [if_neg hq, occ_go bl m (j + 1) _ _ (by omega), List.filter_cons, if_neg q]
open Builtin in
theorem occ_eq (bl : List UInt8) : Bytes.occurrences bl.toArray [10].toArray 0 bl.length = (List.range' 0 bl.length).filter (isNl bl) := by
  unfold Bytes.occurrences
  dsimp only
  have e : (List.range (bl.length + 1 - (0 + 1))).map (· + 0) = List.range' 0 bl.length := by
    rw [show bl.length + 1 - (0 + 1) = bl.length by omega, List.range_eq_range']
    simp
  have h := occ_go bl bl.length 0 [] 0 (Nat.le_refl _)
  rw [show ([10].toArray : Array UInt8).size = 1 from rfl, e]
  rw [h]; simp
theorem ext_snoc {bl : List UInt8} {last j : Nat} (h : last ≤ j) (hj : j < bl.length) : ext bl last (j + 1) = ext bl last j ++ [bl[j]] := by
  unfold ext
  rw [show j + 1 - last = (j - last) + 1 by omega, List.take_add_one]
  congr 1
  rw [List.getElem?_drop, show last + (j - last) = j by omega, List.getElem?_eq_getElem hj]; rfl
theorem btw_go (bl : List UInt8) : ∀ (m j : Nat) (parts : Array (Array UInt8)) (last : Nat), last ≤ j → j + m = bl.length →
    ((((List.range' j m).filter (isNl bl)).foldl (fun (x : Array (Array UInt8) × Nat) p => (x.1.push (bl.toArray.extract x.2 p), p + 1)) (parts, last)).1.push (bl.toArray.extract ((((List.range' j m).filter (isNl bl)).foldl (fun (x : Array (Array UInt8) × Nat) p => (x.1.push (bl.toArray.extract x.2 p), p + 1)) (parts, last)).2) bl.length)).toList.map Array.toList
      = parts.toList.map Array.toList ++ (match splitNl (bl.drop j) with | [] => [] | h :: t => (ext bl last j ++ h) :: t)
  | 0, j, parts, last, h, hj => by
    have : bl.drop j = [] := List.drop_eq_nil_of_le (by omega)
    rw [this]
    simp only [List.range'_zero, List.filter_nil, List.foldl_nil, splitNl, List.append_nil, Array.toList_push, List.map_append, List.map_cons, List.map_nil, ext_arr]
    rw [show bl.length = j by omega]
  | m + 1, j, parts, last, h, hj => by
    have hlt : j < bl.length := by omega
    rw [List.range'_succ, List.filter_cons]
    obtain ⟨hd, tl, hs⟩ := splitNl_cons (l := bl.drop (j + 1))
    have hdr : bl.drop j = bl[j] :: bl.drop (j + 1) := List.drop_eq_getElem_cons hlt
    by_cases q : isNl bl j = true
    · rw [if_pos q, List.foldl_cons]
      have q' : bl[j] = 10 := by rw [isNl_iff hlt] at q; exact beq_iff_eq.mp q
      have ih := btw_go bl m (j + 1) (parts.push (bl.toArray.extract last j)) (j + 1) (Nat.le_refl _) (by omega)
      rw [hs] at ih
      dsimp only at ih ⊢
      rw [ih, hdr]
      unfold splitNl
      rw [if_pos q', hs]
      simp [ext_arr, ext]
    · rw [if_neg q]
      have q' : bl[j] ≠ 10 := fun e => q (by rw [isNl_iff hlt, e]; rfl)
      have ih := btw_go bl m (j + 1) parts last (by omega) (by omega)
      rw [hs] at ih
      rw [ih, hdr]
      unfold splitNl
      rw [if_neg q', hs, ext_snoc h hlt]
      simp
theorem bsplit_eq (bl : List UInt8) : bsplit bl [10] = splitNl bl := by
  unfold bsplit splitParts Builtin.Bytes.between
  rw [show bl.toArray.size = bl.length from List.size_toArray, occ_eq]
  rw [List.take_of_length_le (by have := List.length_filter_le (isNl bl) (List.range' 0 bl.length); simp at this; omega)]
  have h := btw_go bl bl.length 0 #[] 0 (Nat.le_refl _) (by omega)
  dsimp only
  rw [show ([10].toArray : Array UInt8).size = 1 from rfl]
  obtain ⟨hd, tl, hs⟩ := splitNl_cons (l := bl)
  rw [show bl.drop 0 = bl from rfl, hs] at h
  rw [hs]
  simp only [ext, Nat.sub_self, List.take_zero, List.nil_append] at h
  simpa using h
theorem splitNl_len (l : List UInt8) : (splitNl l).length ≤ l.length + 1 ∧ ∀ x ∈ splitNl l, x.length ≤ l.length := by
  induction l with
  | nil => simp [splitNl]
  | cons c r ih =>
    obtain ⟨h, t, e⟩ := splitNl_cons (l := r)
    unfold splitNl
    rw [e] at ih ⊢
    simp only [List.length_cons, List.mem_cons, forall_eq_or_imp] at ih
    split
    · simp; refine ⟨by omega, by omega, fun x hx => ?_⟩
      have := ih.2.2 x hx; omega
    · simp; refine ⟨by omega, by omega, fun x hx => ?_⟩
      have := ih.2.2 x hx; omega
theorem splitNl_app (a b : List UInt8) : splitNl (a ++ 10 :: b) = splitNl a ++ splitNl b := by
  induction a with
  | nil => simp [splitNl]
  | cons c r ih =>
    obtain ⟨h, t, e⟩ := splitNl_cons (l := r)
    rw [e] at ih
    have e1 : splitNl (c :: (r ++ 10 :: b)) = if c = 10 then [] :: splitNl (r ++ 10 :: b) else match splitNl (r ++ 10 :: b) with | [] => [[c]] | h :: t => (c :: h) :: t := by rw [splitNl]
    have e2 : splitNl (c :: r) = if c = 10 then [] :: splitNl r else match splitNl r with | [] => [[c]] | h :: t => (c :: h) :: t := by rw [splitNl]
    rw [List.cons_append, e1, e2, ih, e]
    split <;> rfl
noncomputable def hasLine (m d : List UInt8) : Bool := (splitNl d).any fun l => l.take m.length == m
theorem hasLine_app (m a b : List UInt8) : hasLine m (a ++ 10 :: b) = (hasLine m a || hasLine m b) := by unfold hasLine; rw [splitNl_app, List.any_append]
theorem hasLine_app' (m a b : List UInt8) : hasLine m ((a ++ [13, 10]) ++ b) = (hasLine m (a ++ [13]) || hasLine m b) := by
  rw [← hasLine_app]; simp
theorem splitNl_no {l : List UInt8} (h : ∀ c ∈ l, c ≠ 10) : splitNl l = [l] := by
  induction l with
  | nil => rfl
  | cons c r ih =>
    have e2 : splitNl (c :: r) = if c = 10 then [] :: splitNl r else match splitNl r with | [] => [[c]] | h :: t => (c :: h) :: t := by rw [splitNl] <;> rfl
    rw [e2, if_neg (h c List.mem_cons_self), ih fun d hd => h d (List.mem_cons_of_mem _ hd)]
theorem find_go (d : List UInt8) : ∀ (m j : Nat), j + m = d.length →
    (∀ s, (List.range' j m).find? (isNl d) = some s → j ≤ s ∧ s < d.length ∧ (∀ c ∈ ext d j s, c ≠ 10) ∧ d.drop j = ext d j s ++ 10 :: d.drop (s + 1)) ∧ ((List.range' j m).find? (isNl d) = none → ∀ c ∈ d.drop j, c ≠ 10)
  | 0, j, hj => by
    refine ⟨fun s h => by simp at h, fun _ c hc => ?_⟩
    rw [List.drop_eq_nil_of_le (by omega)] at hc; cases hc
  | m + 1, j, hj => by
    have hlt : j < d.length := by omega
    have hdr : d.drop j = d[j] :: d.drop (j + 1) := List.drop_eq_getElem_cons hlt
    obtain ⟨ih1, ih2⟩ := find_go d m (j + 1) (by omega)
    rw [List.range'_succ, List.find?_cons]
    by_cases q : isNl d j = true
    · rw [q]
      have q' : d[j] = 10 := by rw [isNl_iff hlt] at q; exact beq_iff_eq.mp q
      refine ⟨fun s h => ?_, fun h => nomatch h⟩
      cases h
      refine ⟨Nat.le_refl _, hlt, fun c hc => by simp [ext] at hc, ?_⟩
      rw [hdr, q']; simp [ext]
    · have q2 : isNl d j = false := by simpa using q
      rw [q2]
      have q' : d[j] ≠ 10 := fun e => q (by rw [isNl_iff hlt, e]; rfl)
      refine ⟨fun s h => ?_, fun h c hc => ?_⟩
      · obtain ⟨h1, h2, h3, h4⟩ := ih1 s h
        have e : ext d j s = d[j] :: ext d (j + 1) s := by
          unfold ext
          rw [hdr, show s - j = (s - (j + 1)) + 1 by omega, List.take_succ_cons]
        refine ⟨by omega, h2, fun c hc => ?_, ?_⟩
        · rw [e] at hc
          rcases List.mem_cons.mp hc with rfl | hc
          · exact q'
          · exact h3 c hc
        · rw [e, hdr, h4]; rfl
      · rw [hdr] at hc
        rcases List.mem_cons.mp hc with rfl | hc
        · exact q'
        · exact ih2 h c hc
open Builtin in
theorem find_range (d : List UInt8) (b : Nat) (hb : b ≤ d.length) : Bytes.find? d.toArray [10].toArray b d.length = (List.range' b (d.length - b)).find? (isNl d) := by
  unfold Bytes.find?
  have e : (List.range (d.length + 1 - (b + 1))).map (· + b) = List.range' b (d.length - b) := by
    rw [show d.length + 1 - (b + 1) = d.length - b by omega, List.range'_eq_map_range]
    congr 1
    funext x; omega
  rw [show ([10].toArray : Array UInt8).size = 1 from rfl, e]
  rfl
theorem cut_take {d : List UInt8} {a k : Nat} (h : a ≤ d.length) : cut d (some (a : Int)) (some ((a : Int) + (k : Int))) = (d.drop a).take k := by
  unfold cut
  simp only [Option.elim]
  rw [clip_some (by omega), clip_some (by omega)]
  rw [show ((a : Int)).toNat = a by omega, show ((a : Int) + (k : Int)).toNat = a + k by omega, Nat.min_eq_left h]
  by_cases hk : a + k ≤ d.length
  · rw [Nat.min_eq_left hk, show a + k - a = k by omega]
  · rw [Nat.min_eq_right (by omega), List.take_of_length_le (by simp), List.take_of_length_le (by simp; omega)]
theorem cut_head {l : List UInt8} {k : Nat} : cut l none (some (k : Int)) = l.take k := by
  unfold cut
  simp only [Option.elim]
  rw [clip_some (by omega), show ((k : Int)).toNat = k by omega, List.drop_zero, Nat.sub_zero]
  by_cases hk : k ≤ l.length
  · rw [Nat.min_eq_left hk]
  · rw [Nat.min_eq_right (by omega), List.take_of_length_le (Nat.le_refl _), List.take_of_length_le (by omega)]
theorem pre_line {m x r : List UInt8} (hm : ∀ c ∈ m, c ≠ 10) (hx : ∀ c ∈ x, c ≠ 10) : ((x ++ 10 :: r).take m.length == m) = (x.take m.length == m) := by
  by_cases h : m.length ≤ x.length
  · rw [List.take_append_of_le_length h]
  · have h1 : (x.take m.length == m) = false := by
      rw [beq_eq_false_iff_ne]
      intro e
      have := congrArg List.length e
      simp at this; omega
    rw [h1, beq_eq_false_iff_ne]
    intro e
    have hmem : (10 : UInt8) ∈ (x ++ 10 :: r).take m.length := by
      rw [List.take_append, show m.length - x.length = (m.length - x.length - 1) + 1 by omega, List.take_succ_cons]
      simp
    rw [e] at hmem
    exact hm 10 hmem rfl
theorem spans_any {d m : List UInt8} (hm : ∀ c ∈ m, c ≠ 10) (hne : m ≠ []) : ∀ (f b : Nat), b ≤ d.length → d.length - b < f → (spansF f d b).any (fun s => cut d (some (s.1 : Int)) (some ((s.1 : Int) + (m.length : Int))) == m) = hasLine m (d.drop b)
  | 0, b, _, h => by omega
  | f + 1, b, hb, h => by
    unfold spansF
    have hz : ([] : List UInt8).take m.length ≠ m := by simpa using hne.symm
    by_cases hlt : b < d.length
    · rw [if_pos hlt, find_range d b hb]
      obtain ⟨g1, g2⟩ := find_go d (d.length - b) b (by omega)
      cases hf : (List.range' b (d.length - b)).find? (isNl d) with
      | none =>
        dsimp only
        rw [List.any_cons, List.any_nil, Bool.or_false, cut_take hb]
        unfold hasLine
        rw [splitNl_no (g2 hf)]; simp
      | some s =>
        dsimp only
        obtain ⟨h1, h2, h3, h4⟩ := g1 s hf
        rw [List.any_cons, spans_any hm hne f (s + 1) (by omega) (by omega), cut_take hb]
        rw [h4, hasLine_app, pre_line hm h3]
        congr 1
        unfold hasLine
        rw [splitNl_no h3]; simp
    · rw [if_neg hlt, List.any_nil, List.drop_eq_nil_of_le (by omega)]
      unfold hasLine
      simp [splitNl, hne]
theorem any_filter {α : Type} (p : α → Bool) (l : List α) : (l.filter p).isEmpty = !l.any p := by
  induction l with
  | nil => rfl
  | cons a l ih => rw [List.filter_cons, List.any_cons]; cases p a <;> simp [ih]
theorem begins_eq {d m : List UInt8} (hm : ∀ c ∈ m, c ≠ 10) (hne : m ≠ []) : beginsB d m = hasLine m d := by
  unfold beginsB
  rw [any_filter, Bool.not_not]
  exact spans_any hm hne (d.length + 1) 0 (Nat.zero_le _) (by omega)
noncomputable def mk (i : Nat) : List UInt8 := [45, 45, 61, 95, 112, 97, 114, 116] ++ [toB (48 + (i : Int))]
theorem mk_all : ∀ i : Nat, i < 8 → mk i = markOf (bnd i) ∧ (mk i).all (fun c => c != 10) = true := by decide +kernel
theorem mk_ok {i : Nat} (h : i < 8) : markOf (bnd i) = mk i ∧ (∀ c ∈ mk i, c ≠ 10) ∧ mk i ≠ [] := by
  obtain ⟨h1, h2⟩ := mk_all i h
  rw [List.all_eq_true] at h2
  exact ⟨h1.symm, fun c hc => by simpa using h2 c hc, by simp [mk]⟩
theorem begins_mk {d : List UInt8} {i : Nat} (h : i < 8) : beginsB d (markOf (bnd i)) = hasLine (mk i) d := by
  obtain ⟨h1, h2, h3⟩ := mk_ok h
  rw [h1, begins_eq h2 h3]
noncomputable def anyLine (m : List UInt8) (bs : List (List UInt8)) : Bool := bs.any (hasLine m)
section
variable {X : Cx} {env : Env} {A : Around} {vm vmc vm' : List (Str × PV)} {gl : Option (Str × List PV)} {k k₁ k' : TS} {n : Nat}
theorem cdeep {α : Type} {elt iter iter2 tgt tgt2 : PySem.Expr} {ifs2 : List PySem.Expr} (f pv : α → PV) (it rs : α → List PV) (vm₁ : α → List (Str × PV)) : ∀ (l : List α), (∀ a ∈ l, Asg X env A false none tgt (f a) vm (vm₁ a)) → (∀ a ∈ l, Sub vm (vm₁ a)) → (∀ a ∈ l, EvE X env A (vm₁ a) none k iter2 (pv a) k) → (∀ a ∈ l, IterOf X A (pv a) (it a)) → (∀ x, foldedSetIterable iter2 env x = pure x) →
    (∀ a ∈ l, CompEx X env A elt [⟨tgt2, iter2, ifs2, 0⟩] (it a) (vm₁ a) k (rs a) k) → CompEx X env A elt [⟨tgt, iter, [], 0⟩, ⟨tgt2, iter2, ifs2, 0⟩] (l.map f) vm k (l.map rs).flatten k
  | [], _, _, _, _, _, _ => .stop
  | a :: l, h1, h2, h3, h4, h5, h6 => .deep (h1 a List.mem_cons_self) (h2 a List.mem_cons_self) ⟨rfl, rfl⟩ (h3 a List.mem_cons_self) (h4 a List.mem_cons_self) h5 (h6 a List.mem_cons_self)
      (cdeep f pv it rs vm₁ l (fun b hb => h1 b (List.mem_cons_of_mem _ hb)) (fun b hb => h2 b (List.mem_cons_of_mem _ hb)) (fun b hb => h3 b (List.mem_cons_of_mem _ hb)) (fun b hb => h4 b (List.mem_cons_of_mem _ hb)) h5 fun b hb => h6 b (List.mem_cons_of_mem _ hb))
theorem for_until {α : Type} {tgt : PySem.Expr} {body : List Stmt} {q : PV} (f : α → PV) (vm₁ : α → List (Str × PV)) : ∀ (l₁ : List α) (a : α) (l₂ : List α), (∀ b ∈ l₁ ++ [a], Asg X env A true gl tgt (f b) vm (vm₁ b)) → (∀ b ∈ l₁, Ex X env A (vm₁ b) gl k (execs body env) (.next vm gl k)) → Ex X env A (vm₁ a) gl k (execs body env) (.ret q k') →
    ForEx X env A tgt body ((l₁ ++ a :: l₂).map f) vm gl k (.ret q k')
  | [], a, l₂, h1, _, h3 => .ret (h1 a (by simp)) h3
  | b :: l₁, a, l₂, h1, h2, h3 => .turn (h1 b (by simp)) (h2 b List.mem_cons_self) (for_until f vm₁ l₁ a l₂ (fun c hc => h1 c (List.mem_cons_of_mem _ hc)) (fun c hc => h2 c (List.mem_cons_of_mem _ hc)) h3)
noncomputable def numRs (m : List UInt8) (b : List UInt8) : List PV := ((splitNl b).filter fun l => cut l none (some (m.length : Int)) == m).map fun _ => .int 1
theorem numRs_empty {m : List UInt8} (bs : List (List UInt8)) : ((bs.map (numRs m)).flatten).isEmpty = !anyLine m bs := by
  unfold anyLine
  induction bs with
  | nil => rfl
  | cons b bs ih =>
    rw [List.map_cons, List.flatten_cons, List.any_cons]
    have h1 : (numRs m b).isEmpty = !hasLine m b := by
      unfold numRs hasLine
      rw [List.isEmpty_map, any_filter]
      simp only [cut_head]
    cases h : numRs m b with
    | nil => rw [h] at h1; simp at h1; rw [h1]; simpa using ih
    | cons x y => rw [h] at h1; simp at h1; rw [h1]; simp
theorem numRs_len {m : List UInt8} (bs : List (List UInt8)) (hz : ∀ x ∈ bs, x.length ≤ 900000) (hl : bs.length ≤ 10) : ((bs.map (numRs m)).flatten).length ≤ sizeLine := by
  have h := sum_le (l := (bs.map (numRs m)).map List.length) (m := 900001) (by
    intro x hx
    rw [List.mem_map] at hx
    obtain ⟨y, hy, rfl⟩ := hx
    rw [List.mem_map] at hy
    obtain ⟨b, hb, rfl⟩ := hy
    unfold numRs
    rw [List.length_map]
    have h1 := List.length_filter_le (fun l => cut l none (some (m.length : Int)) == m) (splitNl b)
    have h2 := (splitNl_len b).1
    have h3 := hz b hb
    omega)
  rw [List.length_map, List.length_map] at h
  rw [List.length_flatten]
  unfold sizeLine
  omega
theorem range6 {N : Nat} (h : N < 6) : List.range 6 = List.range N ++ N :: (List.range 6).drop (N + 1) := by
  have : ∀ N < 6, List.range 6 = List.range N ++ N :: (List.range 6).drop (N + 1) := by decide
  exact this N h
theorem f_law_number {bs : List (List UInt8)} {N : Nat} (hN : N < 6) (hlt : ∀ i < N, anyLine (mk i) bs = true) (hno : anyLine (mk N) bs = false) (hz : ∀ x ∈ bs, x.length ≤ 900000) (hl : bs.length ≤ 10) : FSpec X (n + 1) (.ref 639) [.list (bs.map .bytes)] k (.int (N : Nat)) k :=
  fspec o_708 (sBody (stm 108)) [(s_bodies, .list (bs.map .bytes))] (.ret (.int (N : Nat)) k) (bind1 fun v => by kernel_rfl) (fun L => kinds1 (by kernel_rfl))
    (fun L A R => ex_stop (ex_for (items := (List.range 6).map fun i : Nat => PV.int (i : Int)) (call1 g_range callee_val ev_int (range_i (n := 6))) (iter_range (n := 6) R.hh (by omega)) (by
      rw [range6 hN]
      refine for_until (fun i : Nat => PV.int (i : Int)) (fun i => [(s_number, .int (i : Int)), (s_bodies, .list (bs.map .bytes))]) _ _ _ (fun c _ => asg_name (by kernel_rfl)) (fun i hi => ?_) ?_
      · have hi : i < N := List.mem_range.mp hi
        exact ex_seq (ex_assign (p := .bytes (mk i)) (ev_bin ev_bytes (call1 g_bytes callee_val (ev_list (ps := [.int (48 + (i : Int))]) (a1 (ev_bin ev_int ev_nm bin_addi))) (bytes_l (l := [48 + (i : Int)]) R.hh (by intro m hm; simp at hm; subst hm; omega) (by simp [sizeLine]))) (bin_addb (by simp))) (asg_cell (by kernel_rfl) (by kernel_rfl)))
          (ex_guard ((evb_cmp (ev_comp (cl := [(s_mark, L + 1)]) (vmc := [(s_mark, .bytes (mk i))]) (rs := (bs.map (numRs (mk i))).flatten) ev_nm (fun _ => turns_two) (forall2 rfl rfl) (by rfl) (by kernel_rfl) (subc1 (by kernel_rfl)) (cap1 lk0 (by kernel_rfl) (by kernel_rfl)) (iter_list R.hh)
            (fun C => cdeep .bytes (fun b => .list ((bsplit b [10]).map .bytes)) (fun b => (bsplit b [10]).map .bytes) (numRs (mk i)) (fun b => [(s_body, .bytes b), (s_mark, .bytes (mk i))]) bs (fun c _ => asg_name (by kernel_rfl)) (fun c _ => sub_tl)
              (fun b hb => ev_meth ev_nm m_split callee_val (a1 ev_bytes) (split_b rfl (by rw [bsplit_eq]; intro x hx; have := (splitNl_len b).2 x hx; have := hz b hb; omega) (by rw [bsplit_eq]; have := (splitNl_len b).1; have := hz b hb; omega))) (fun b _ => iter_list R.hh) (by intro _; rfl)
              (fun b hb => by
                rw [bsplit_eq]
                exact cfilter (splitNl b) .bytes (fun _ => .int 1) (fun l => cut l none (some ((mk i).length : Int)) == mk i) (fun l => [(s_line, .bytes l), (s_body, .bytes b), (s_mark, .bytes (mk i))]) (fun c _ => asg_name (by kernel_rfl)) (fun c _ => sub_tl)
                  (fun l hl => evb_cmp (ev_slice ev_nm .none (.some (call1 g_len callee_val ev_nm (len_b (by simp [mk])))) gets_b (cut_bytes (by have := (splitNl_len b).2 l hl; have := hz b hb; omega))) ev_nm cmp_eqb) (fun l _ _ => ev_int))) (numRs_len bs hz hl)) (ev_list a0) (cmp_eqnil (R.le (by omega)))).cast (by rw [numRs_empty, hlt i hi]; rfl)) (ex_end (Sub.cons lk2 Sub.nil)))
      · exact ex_seq (ex_assign (p := .bytes (mk N)) (ev_bin ev_bytes (call1 g_bytes callee_val (ev_list (ps := [.int (48 + (N : Int))]) (a1 (ev_bin ev_int ev_nm bin_addi))) (bytes_l (l := [48 + (N : Int)]) R.hh (by intro m hm; simp at hm; subst hm; omega) (by simp [sizeLine]))) (bin_addb (by simp))) (asg_cell (by kernel_rfl) (by kernel_rfl)))
          (ex_stop (ex_if (c := true) ((evb_cmp (ev_comp (cl := [(s_mark, L + 1)]) (vmc := [(s_mark, .bytes (mk N))]) (rs := (bs.map (numRs (mk N))).flatten) ev_nm (fun _ => turns_two) (forall2 rfl rfl) (by rfl) (by kernel_rfl) (subc1 (by kernel_rfl)) (cap1 lk0 (by kernel_rfl) (by kernel_rfl)) (iter_list R.hh)
            (fun C => cdeep .bytes (fun b => .list ((bsplit b [10]).map .bytes)) (fun b => (bsplit b [10]).map .bytes) (numRs (mk N)) (fun b => [(s_body, .bytes b), (s_mark, .bytes (mk N))]) bs (fun c _ => asg_name (by kernel_rfl)) (fun c _ => sub_tl)
              (fun b hb => ev_meth ev_nm m_split callee_val (a1 ev_bytes) (split_b rfl (by rw [bsplit_eq]; intro x hx; have := (splitNl_len b).2 x hx; have := hz b hb; omega) (by rw [bsplit_eq]; have := (splitNl_len b).1; have := hz b hb; omega))) (fun b _ => iter_list R.hh) (by intro _; rfl)
              (fun b hb => by
                rw [bsplit_eq]
                exact cfilter (splitNl b) .bytes (fun _ => .int 1) (fun l => cut l none (some ((mk N).length : Int)) == mk N) (fun l => [(s_line, .bytes l), (s_body, .bytes b), (s_mark, .bytes (mk N))]) (fun c _ => asg_name (by kernel_rfl)) (fun c _ => sub_tl)
                  (fun l hl => evb_cmp (ev_slice ev_nm .none (.some (call1 g_len callee_val ev_nm (len_b (by simp [mk])))) gets_b (cut_bytes (by have := (splitNl_len b).2 l hl; have := hz b hb; omega))) ev_nm cmp_eqb) (fun l _ _ => ev_int))) (numRs_len bs hz hl)) (ev_list a0) (cmp_eqnil (R.le (by omega)))).cast (by rw [numRs_empty, hno]; rfl)) (fun _ => ex_stop (ex_ret ev_nm)) (fun h => nomatch h)))))) ⟨rfl, rfl⟩
end
noncomputable def s_pairs : Str := ⟨#[112, 97, 105, 114, 115]⟩
noncomputable def s_pair : Str := ⟨#[112, 97, 105, 114]⟩
noncomputable def s_mixed : Str := ⟨#[109, 105, 120, 101, 100]⟩
noncomputable def s_digest : Str := ⟨#[100, 105, 103, 101, 115, 116]⟩
noncomputable def subOf : Nat → Str
  | 0 => s_mixed
  | _ => s_digest
noncomputable def pairPV (p : PV × List UInt8) : PV := .tup [p.1, .bytes p.2]
noncomputable def nmB (N : Nat) : List UInt8 := [61, 95, 112, 97, 114, 116] ++ [toB (48 + (N : Int))]
noncomputable def headDue (sub : Str) (w N : Nat) : List UInt8 := [67, 111, 110, 116, 101, 110, 116, 45, 84, 121, 112, 101, 58, 32, 109, 117, 108, 116, 105, 112, 97, 114, 116, 47] ++ tb sub ++ [59, 13, 10, 32, 98, 111, 117, 110, 100, 97, 114, 121, 61, 34] ++ nmB N ++ [34, 13, 10] ++ toldFields w ++ [13, 10]
noncomputable def bodyDue (bs : List (List UInt8)) (N : Nat) : List UInt8 := (bs.map fun x => [45, 45] ++ nmB N ++ [13, 10] ++ x ++ [13, 10]).flatten
noncomputable def manyDue (sub : Str) (w : Nat) (bs : List (List UInt8)) (N : Nat) : List UInt8 := headDue sub w N ++ bodyDue bs N ++ [45, 45] ++ nmB N ++ [45, 45, 13, 10]
theorem sub_at {d : Nat} (h : d < 2) : ([PV.str s_mixed, PV.str s_digest] : List PV)[d]? = some (PV.str (subOf d)) := by
  rcases d with _ | _ | d
  · rfl
  · rfl
  · omega
theorem sub_small (d : Nat) : (∀ c ∈ (subOf d).cps.toList, c < 128) ∧ (subOf d).cps.toList.length ≤ 10 := by
  rcases d with _ | d
  · exact ⟨by decide, by decide⟩
  · exact ⟨(by decide : ∀ c ∈ s_digest.cps.toList, c < 128), (by decide : s_digest.cps.toList.length ≤ 10)⟩
theorem told_small (w : Nat) : (toldFields w).length ≤ 30 := by
  rcases w with _ | _ | w <;> simp [toldFields]
theorem headDue_len (d w N : Nat) : (headDue (subOf d) w N).length ≤ 200 := by
  have h1 := told_small w
  have h2 := (sub_small d).2
  have h3 := tb_len (subOf d)
  unfold headDue nmB
  simp only [List.length_append, List.length_cons, List.length_nil]
  omega
theorem bodyDue_len {bs : List (List UInt8)} {N z : Nat} (hz : ∀ x ∈ bs, x.length ≤ z) (hl : bs.length ≤ 3) : (bodyDue bs N).length ≤ (z + 20) * 3 := by
  have h := flat_le (l := bs.map fun x => [45, 45] ++ nmB N ++ [13, 10] ++ x ++ [13, 10]) (m := z + 20) (by
    intro y hy
    rw [List.mem_map] at hy
    obtain ⟨x, hx, rfl⟩ := hy
    have := hz x hx
    unfold nmB
    simp only [List.length_append, List.length_cons, List.length_nil]
    omega)
  rw [List.length_map] at h
  have := Nat.mul_le_mul_left (z + 20) hl
  unfold bodyDue
  omega
section
variable {X : Cx} {env : Env} {A : Around} {vm vmc vm' : List (Str × PV)} {gl : Option (Str × List PV)} {k k₁ k' : TS} {n : Nat}
inductive Chain (X : Cx) (n D : Nat) (cs : List Int) : Nat → List (PV × List UInt8) → Nat → Prop
  | nil {i : Nat} : Chain X n D cs i [] i
  | cons {i j m : Nat} {p : PV × List UInt8} {l : List (PV × List UInt8)} : FSpec X n (.ref 634) [.tape, .int (D : Int)] (tp cs i) (pairPV p) (tp cs j) → Chain X n D cs j l m → Chain X n D cs i (p :: l) m
theorem comp_chain {D : Nat} {cs : List Int} {elt iter tgt : PySem.Expr} (vm₁ : Nat → List (Str × PV)) (h1 : ∀ i, Asg X env A false none tgt (.int ((i : Nat) : Int)) vm (vm₁ i)) (h2 : ∀ i, Sub vm (vm₁ i))
    (h3 : ∀ i a b p, FSpec X n (.ref 634) [.tape, .int (D : Int)] (tp cs a) (pairPV p) (tp cs b) → EvE X env A (vm₁ i) none (tp cs a) elt (pairPV p) (tp cs b)) : ∀ {a m : Nat} {l : List (PV × List UInt8)}, Chain X n D cs a l m → ∀ (its : List Nat), its.length = l.length →
    CompEx X env A elt [⟨tgt, iter, [], 0⟩] (its.map fun i : Nat => PV.int (i : Int)) vm (tp cs a) (l.map pairPV) (tp cs m) := by
  intro a m l h
  induction h with
  | nil =>
    intro its he
    cases its with
    | nil => exact .stop
    | cons i its => simp at he
  | cons hf _ ih =>
    intro its he
    cases its with
    | nil => simp at he
    | cons i its => exact .take (h1 i) (h2 i) ⟨rfl, rfl⟩ (h3 i _ _ _ hf) (ih its (by simpa using he))
set_option maxHeartbeats 400000 in
theorem f_law_many {D i m N : Nat} {cs : List Int} {l : List (PV × List UInt8)} (ht : TapeOk cs i) (hi : i ≤ 40000) (hD : D ≤ 1) (hn4 : 4 ≤ n) (hch : Chain X n D cs (i + 3) l m) (hlen : l.length = 1 + dr cs (i + 2) (3 - D)) (hN : N < 6) (hlt : ∀ j < N, anyLine (mk j) (l.map Prod.snd) = true) (hno : anyLine (mk N) (l.map Prod.snd) = false) (hz : ∀ x ∈ l.map Prod.snd, x.length ≤ 200000) :
    FSpec X (n + 1) (.ref 644) [.tape, .int (D : Int)] (tp cs i) (.tup [manyPV (subOf (dr cs (i + 1) 2)) (l.map Prod.fst) (fsPV (lawFields (dr cs i 3))), .bytes (manyDue (subOf (dr cs (i + 1) 2)) (dr cs i 3) (l.map Prod.snd) N)]) (tp cs m) :=
  fspec o_713 (sBody (stm 109)) [(s_tape, .tape), (s_depth, .int (D : Int))] (.ret (.tup [manyPV (subOf (dr cs (i + 1) 2)) (l.map Prod.fst) (fsPV (lawFields (dr cs i 3))), .bytes (manyDue (subOf (dr cs (i + 1) 2)) (dr cs i 3) (l.map Prod.snd) N)]) (tp cs m)) (bind2 fun v u => by kernel_rfl) (fun L => ⟨.inr ⟨by kernel_rfl, by kernel_rfl⟩, rfl, .inr ⟨by kernel_rfl, by kernel_rfl⟩, rfl, trivial⟩)
    (fun L A R => by
      have b1 := dr_lt (cs := cs) (i := i) (lim := 3) (by omega)
      have b2 := dr_lt (cs := cs) (i := i + 1) (lim := 2) (by omega)
      have b3 := dr_lt (cs := cs) (i := i + 2) (lim := 3 - D) (by omega)
      generalize hw : dr cs i 3 = w at *
      generalize hd : dr cs (i + 1) 2 = d at *
      have hll : l.length ≤ 3 := by omega
      obtain ⟨q1, q2⟩ := sub_small d
      have q3 := tb_len (subOf d)
      have q4 := told_small w
      have hH := headDue_len d w N
      have hB := bodyDue_len (N := N) hz (by rw [List.length_map]; exact hll)
      have hnm : (nmB N).length = 7 := by unfold nmB; simp
      have hpart : ∀ x ∈ l.map Prod.snd, ([45, 45] ++ nmB N ++ [13, 10] ++ x ++ [13, 10] : List UInt8).length ≤ 200020 := by
        intro x hx
        have := hz x hx
        simp only [List.length_append, List.length_cons, List.length_nil, hnm]
        omega
      have hsum := sum_le (l := ((l.map Prod.snd).map fun x => [45, 45] ++ nmB N ++ [13, 10] ++ x ++ [13, 10]).map List.length) (m := 200020) (by intro x hx; rw [List.mem_map] at hx; obtain ⟨y, hy, rfl⟩ := hx; rw [List.mem_map] at hy; obtain ⟨z, hz, rfl⟩ := hy; exact hpart z hz)
      rw [List.length_map, List.length_map, List.length_map] at hsum
      refine ex_seq (ex_assign (call1 g__law_fields c__law_fields ev_nm (fsum (n := 2) (f_law_fields ht) (by omega) R)) (asg_tup R.hh (.cons (asg_name (by kernel_rfl)) (.cons (asg_name (by kernel_rfl)) .nil)))) ?_
      rw [hw]
      refine ex_seq (ex_assign (p := .str (subOf d)) (ev_sub (ev_tuple (a2 ev_str ev_str)) ((call2 g__law_draw c__law_draw ev_nm ev_int (fsum (n := 1) (f_draw' (lim := 2) (ht.up (j := i + 1) (by omega)) (by omega)) (by omega) R)).cast (by rw [hd])) gets_t (item_tup (sub_at b2) (by omega))) (asg_name (by kernel_rfl))) ?_
      refine ex_seq (ex_acompC (rs := l.map pairPV) (vmc := [(s_depth, .int (D : Int)), (s_tape, .tape)]) (cl := [(s_tape, L + 1), (s_depth, L + 2)]) (call1 g_range callee_val ((ev_bin ev_int (call2 g__law_draw c__law_draw ev_nm ((ev_bin ev_int ev_nm bin_subi).cast (q := .int ((3 - D : Nat) : Int)) (by congr 1; omega)) (fsum (n := 1) (f_draw' (lim := 3 - D) (ht.up (j := i + 2) (by omega)) (by omega)) (by omega) R)) bin_addi).cast (q := .int ((l.length : Nat) : Int)) (by rw [hlen]; simp)) range_i)
        (iter_range R.hh (by omega)) (by rfl) (subc2 (by kernel_rfl) (by kernel_rfl) (by decide)) (cap2 (by decide) lk4 (by kernel_rfl) (by kernel_rfl) lk3 (by kernel_rfl) (by kernel_rfl))
        (fun C => comp_chain (fun i => [(s_k, .int (i : Int)), (s_depth, .int (D : Int)), (s_tape, .tape)]) (fun i => asg_name (by kernel_rfl)) (fun i => sub_tl) (fun i a b p hp => call2 g__law_piece c__law_piece ev_nm ev_nm (fsum (n := n) hp (by omega) R)) hch (List.range l.length) (by simp)) (by rw [List.length_map]; unfold sizeLine; omega) (asg_name (by kernel_rfl))) ?_
      refine ex_seq (ex_acomp (rs := (l.map Prod.snd).map .bytes) ev_nm (iter_list R.hh) (fun C => cmap l pairPV (fun p => .bytes p.2) (fun p => [(s_pair, pairPV p)]) (fun c _ => asg_name (by kernel_rfl)) (fun c _ => sub_tl) (fun p hp => ev_sub (p := pairPV p) ev_nm ev_int gets_t (item_tup (i := 1) rfl (by omega))) rfl (by rw [List.map_map]; rfl)) (by rw [List.length_map, List.length_map]; unfold sizeLine; omega) (asg_name (by kernel_rfl))) ?_
      refine ex_seq (ex_assign (p := .bytes (nmB N)) (ev_bin ev_bytes (call1 g_bytes callee_val (ev_list (ps := [.int (48 + (N : Int))]) (a1 (ev_bin ev_int (call1 g__law_number c__law_number ev_nm (fsum (n := 1) (f_law_number hN hlt hno (fun x hx => by have := hz x hx; omega) (by rw [List.length_map]; omega)) (by omega) R)) bin_addi))) (bytes_l (l := [48 + (N : Int)]) R.hh (by intro m hm; simp at hm; subst hm; omega) (by simp [sizeLine]))) (bin_addb (by simp))) (asg_cell (by kernel_rfl) (by kernel_rfl))) ?_
      refine ex_seq (ex_assign (p := .bytes (headDue (subOf d) w N)) (ev_bin (ev_bin (ev_bin (ev_bin (ev_bin (ev_bin ev_bytes (ev_ords0 (R.le (by omega)) g_bytes ev_nm q1 (by omega) (fun C => cmap (subOf d).cps.toList (fun c : Nat => .str ⟨#[c]⟩) (fun c : Nat => .int (c : Int)) (fun c => [(s_sign, .str ⟨#[c]⟩)]) (fun c _ => asg_name (by kernel_rfl)) (fun c _ => sub_tl) (fun c _ => call1 g_ord callee_val ev_nm ord_c))) (bin_addb (by simp only [List.length_append, List.length_cons, List.length_nil]; omega))) ev_bytes (bin_addb (by simp only [List.length_append, List.length_cons, List.length_nil]; omega))) ev_nm (bin_addb (by simp only [List.length_append, List.length_cons, List.length_nil]; omega))) ev_bytes (bin_addb (by simp only [List.length_append, List.length_cons, List.length_nil]; omega))) ev_nm (bin_addb (by simp only [List.length_append, List.length_cons, List.length_nil]; omega))) ev_bytes (bin_addb (by simp only [List.length_append, List.length_cons, List.length_nil]; omega))) (asg_name (by kernel_rfl))) ?_
      refine ex_seq (ex_assign (p := .bytes (bodyDue (l.map Prod.snd) N)) ((ev_methE rfl ev_bytes m_bjoin callee_val (a1 (ev_compC (rs := ((l.map Prod.snd).map fun x => [45, 45] ++ nmB N ++ [13, 10] ++ x ++ [13, 10]).map .bytes) (vmc := [(s_name, .bytes (nmB N))]) (cl := [(s_name, L + 3)]) ev_nm (iter_list R.hh) (by rfl) (subc1 (by kernel_rfl)) (cap1 lk1 (by kernel_rfl) (by kernel_rfl))
            (fun C => cmap (l.map Prod.snd) .bytes (fun x => .bytes ([45, 45] ++ nmB N ++ [13, 10] ++ x ++ [13, 10])) (fun x => [(s_one, .bytes x), (s_name, .bytes (nmB N))]) (fun c _ => asg_name (by kernel_rfl)) (fun c _ => sub_tl)
              (fun x hx => by
                have hx := hpart x hx
                simp only [List.length_append, List.length_cons, List.length_nil] at hx
                exact ev_bin (ev_bin (ev_bin (ev_bin ev_bytes ev_nm (bin_addb (by simp only [List.length_append, List.length_cons, List.length_nil]; omega))) ev_bytes (bin_addb (by simp only [List.length_append, List.length_cons, List.length_nil]; omega))) ev_nm (bin_addb (by simp only [List.length_append, List.length_cons, List.length_nil]; omega))) ev_bytes (bin_addb (by simp only [List.length_append, List.length_cons, List.length_nil]; omega))) rfl (by rw [List.map_map]; rfl)) (by rw [List.length_map, List.length_map, List.length_map]; unfold sizeLine; omega))) (join_b (by rw [List.length_map, List.length_map]; simp only [List.length_nil]; omega))).cast (by rw [bjoin_nil]; rfl)) (asg_name (by kernel_rfl))) ?_
      have z1 : (headDue (subOf d) w N).length + (bodyDue (l.map Prod.snd) N).length ≤ 16777216 := by omega
      have z2 : (headDue (subOf d) w N ++ bodyDue (l.map Prod.snd) N).length + ([45, 45] : List UInt8).length ≤ 16777216 := by simp only [List.length_append, List.length_cons, List.length_nil]; omega
      have z3 : (headDue (subOf d) w N ++ bodyDue (l.map Prod.snd) N ++ [45, 45]).length + (nmB N).length ≤ 16777216 := by simp only [List.length_append, List.length_cons, List.length_nil]; omega
      have z4 : (headDue (subOf d) w N ++ bodyDue (l.map Prod.snd) N ++ [45, 45] ++ nmB N).length + ([45, 45, 13, 10] : List UInt8).length ≤ 16777216 := by simp only [List.length_append, List.length_cons, List.length_nil]; omega
      exact ex_stop (ex_ret (ev_tuple (a2 (call3 g_Many c_Many ev_nm (ev_comp1 (rs := l.map Prod.fst) ev_nm (iter_list R.hh) (fun C => cmap l pairPV Prod.fst (fun p => [(s_pair, pairPV p)]) (fun c _ => asg_name (by kernel_rfl)) (fun c _ => sub_tl) (fun p hp => ev_sub (p := pairPV p) ev_nm ev_int gets_t (item_tup (i := 0) rfl (by omega)))) (by rw [List.length_map]; unfold sizeLine; omega)) ev_nm (mk_Many R))
((ev_bin (ev_bin (ev_bin (ev_bin ev_nm ev_nm (bin_addb z1)) ev_bytes (bin_addb z2)) ev_nm (bin_addb z3)) ev_bytes (bin_addb z4)).cast (q := .bytes (manyDue (subOf d) w (l.map Prod.snd) N)) rfl))))) ⟨rfl, rfl⟩
end
noncomputable def letterPre (z : Nat) : List UInt8 := [67, 111, 110, 116, 101, 110, 116, 45, 84, 121, 112, 101, 58, 32, 109, 101, 115, 115, 97, 103, 101, 47, 114, 102, 99, 56, 50, 50, 13, 10, 13, 10] ++ toldFields z ++ [77, 73, 77, 69, 45, 86, 101, 114, 115, 105, 111, 110, 58, 32, 49, 46, 48, 13, 10]
/- decided -/
theorem d_kind : ∀ v < 4, (kindOk (kTop v) (kSub v) (kPar v) && soundB (ctField (kTop v) (kSub v) (kPar v)) && !((kTop v).cps.toList == [109, 117, 108, 116, 105, 112, 97, 114, 116]) && !(((kTop v).cps.toList == [109, 101, 115, 115, 97, 103, 101]) && ((kSub v).cps.toList == [114, 102, 99, 56, 50, 50]))) = true := by decide +kernel
theorem d_fields : ∀ w < 3, ((lawFields w).all (fun f => soundB f && !((ownWords.map lowS).any (· == wordOf f.1)) && decide ((fieldB f).length ≤ 1000)) && decide ((lawFields w).length ≤ 50)) = true := by decide +kernel
theorem d_octs : ∀ u < 6, (sevenB (octs u) && decide ((octs u).length ≤ 1000)) = true := by decide +kernel
theorem d_leaf : ∀ w < 3, ∀ v < 4, ∀ u < 6, (leafDue w v u == leafB (kTop v) (kSub v) (kPar v) (lawFields w) (octs u) && !hasLine (mk 3) (leafDue w v u) && !hasLine (mk 4) (leafDue w v u)) = true := by decide +kernel
theorem d_letter : ∀ z < 3, (letterPre z == headB s_message s_rfc822 none [] ++ ((lawFields z ++ [mimeField]).map fieldB).flatten && !hasLine (mk 3) (letterPre z).dropLast && !hasLine (mk 4) (letterPre z).dropLast && ((letterPre z).dropLast ++ [10] == letterPre z) && decide ((letterPre z).length ≤ 200)) = true := by decide +kernel
theorem d_head : ∀ d < 2, ∀ w < 3, ∀ N < 5, (headDue (subOf d) w N == headB s_multipart (subOf d) (some (s_boundary, bnd N)) (lawFields w) && !hasLine (mk 4) (headDue (subOf d) w N).dropLast && ((headDue (subOf d) w N).dropLast ++ [10] == headDue (subOf d) w N) && kindOk s_multipart (subOf d) (some (s_boundary, bnd N)) && soundB (ctField s_multipart (subOf d) (some (s_boundary, bnd N)))) = true := by decide +kernel
theorem d_marks : ∀ N < 4, (!hasLine (mk 4) (mk N ++ [13]) && !hasLine (mk 4) (mk N ++ [45, 45, 13, 10])) = true := by decide +kernel
theorem fields_ok {w : Nat} (h : w < 3) : FieldsOk (lawFields w) := by
  have := d_fields w h
  simp only [Bool.and_eq_true, List.all_eq_true, decide_eq_true_eq, Bool.not_eq_true'] at this
  exact ⟨fun f hf => (this.1 f hf).1.1, fun f hf => (this.1 f hf).1.2, fun f hf => (this.1 f hf).2, this.2⟩
theorem leaf_ok {w v u : Nat} (hw : w < 3) (hv : v < 4) (hu : u < 6) : LeafOk (kTop v) (kSub v) (kPar v) (lawFields w) (octs u) := by
  have h1 := d_kind v hv
  have h2 := d_octs u hu
  rw [Bool.and_eq_true, Bool.and_eq_true, Bool.and_eq_true] at h1
  rw [Bool.and_eq_true, decide_eq_true_eq] at h2
  exact ⟨h1.1.1.1, h1.1.1.2, fields_ok hw, notT h1.1.2, notT h1.2, h2.1, h2.2⟩
theorem leaf_due {w v u : Nat} (hw : w < 3) (hv : v < 4) (hu : u < 6) : leafDue w v u = leafB (kTop v) (kSub v) (kPar v) (lawFields w) (octs u) ∧ hasLine (mk 3) (leafDue w v u) = false ∧ hasLine (mk 4) (leafDue w v u) = false := by
  have h := d_leaf w hw v hv u hu
  simp only [Bool.and_eq_true, Bool.not_eq_true', beq_iff_eq] at h
  exact ⟨h.1.1, h.1.2, h.2⟩
theorem hasLine_pre {m a b : List UInt8} (h : a.dropLast ++ [10] = a) (hm : hasLine m a.dropLast = false) : hasLine m (a ++ b) = hasLine m b := by
  rw [← h, List.append_assoc]
  show hasLine m (a.dropLast ++ 10 :: b) = _
  rw [hasLine_app, hm]; rfl
theorem letter_due {z : Nat} (hz : z < 3) (b : List UInt8) : letterPre z ++ b = letterB (lawFields z) b ∧ hasLine (mk 3) (letterPre z ++ b) = hasLine (mk 3) b ∧ hasLine (mk 4) (letterPre z ++ b) = hasLine (mk 4) b ∧ (letterPre z).length ≤ 200 := by
  have h := d_letter z hz
  simp only [Bool.and_eq_true, Bool.not_eq_true', beq_iff_eq, decide_eq_true_eq] at h
  obtain ⟨⟨⟨⟨h1, h2⟩, h3⟩, h4⟩, h5⟩ := h
  refine ⟨?_, hasLine_pre h4 h2, hasLine_pre h4 h3, h5⟩
  rw [h1]; unfold letterB; rw [List.append_assoc]
theorem take_ret {m l : List UInt8} (hm : ∀ c ∈ m, c ≠ 13) : ((l ++ [13]).take m.length == m) = (l.take m.length == m) := by
  by_cases h : m.length ≤ l.length
  · rw [List.take_append_of_le_length h]
  · have h1 : (l.take m.length == m) = false := by
      rw [beq_eq_false_iff_ne]
      intro e
      have := congrArg List.length e
      simp at this; omega
    rw [h1, beq_eq_false_iff_ne]
    intro e
    rw [List.take_of_length_le (by simp; omega)] at e
    exact hm 13 (by rw [← e]; simp) rfl
theorem line_ret {m : List UInt8} (hm : ∀ c ∈ m, c ≠ 13) : ∀ (x pre : List UInt8) {h t h' t'}, splitNl x = h :: t → splitNl (x ++ [13]) = h' :: t' →
    (((pre ++ h').take m.length == m) || t'.any fun l => l.take m.length == m) = (((pre ++ h).take m.length == m) || t.any fun l => l.take m.length == m)
  | [], pre, h, t, h', t', e, e' => by
    have e1 : splitNl ([] : List UInt8) = [[]] := rfl
    have e2 : splitNl (([] : List UInt8) ++ [13]) = [[13]] := by decide
    rw [e1] at e; rw [e2] at e'
    cases e; cases e'
    rw [take_ret hm]; simp
  | c :: r, pre, h, t, h', t', e, e' => by
    obtain ⟨a, b, q⟩ := splitNl_cons (l := r)
    obtain ⟨a', b', q'⟩ := splitNl_cons (l := r ++ [13])
    have e1 : ∀ r, splitNl (c :: r) = if c = 10 then [] :: splitNl r else match splitNl r with | [] => [[c]] | h :: t => (c :: h) :: t := fun r => by rw [splitNl] <;> rfl
    rw [e1, q] at e
    rw [List.cons_append, e1, q'] at e'
    by_cases hc : c = 10
    · rw [if_pos hc] at e e'
      cases e; cases e'
      have ih := line_ret hm r [] q q'
      rw [List.any_cons, List.any_cons]
      simp only [List.nil_append] at ih
      rw [ih]
    · rw [if_neg hc] at e e'
      cases e; cases e'
      have ih := line_ret hm r (pre ++ [c]) q q'
      simpa using ih
theorem hasLine_ret {m x : List UInt8} (hm : ∀ c ∈ m, c ≠ 13) : hasLine m (x ++ [13]) = hasLine m x := by
  obtain ⟨a, b, q⟩ := splitNl_cons (l := x)
  obtain ⟨a', b', q'⟩ := splitNl_cons (l := x ++ [13])
  have := line_ret hm x [] q q'
  unfold hasLine
  rw [q, q', List.any_cons, List.any_cons]
  simpa using this
theorem mk_ret : ∀ c ∈ mk 4, c ≠ 13 := by decide
theorem nm_mk : ∀ N < 5, ([45, 45] ++ nmB N == mk N) = true := by decide +kernel
theorem body_no {N : Nat} (hN : N < 4) : ∀ (bs : List (List UInt8)) (rest : List UInt8), (∀ b ∈ bs, hasLine (mk 4) b = false) → hasLine (mk 4) (bodyDue bs N ++ rest) = hasLine (mk 4) rest
  | [], rest, _ => by simp [bodyDue]
  | x :: bs, rest, h => by
    have hm := d_marks N hN
    simp only [Bool.and_eq_true, Bool.not_eq_true'] at hm
    have hn : [45, 45] ++ nmB N = mk N := beq_iff_eq.mp (nm_mk N (by omega))
    have ih := body_no hN bs rest fun b hb => h b (List.mem_cons_of_mem _ hb)
    have e : bodyDue (x :: bs) N ++ rest = (mk N ++ [13, 10]) ++ ((x ++ [13, 10]) ++ (bodyDue bs N ++ rest)) := by
      unfold bodyDue
      rw [← hn]
      simp
    rw [e, hasLine_app', hm.1, hasLine_app', hasLine_ret mk_ret, h x List.mem_cons_self, ih]; rfl
theorem many_no {d w N : Nat} {bs : List (List UInt8)} (hd : d < 2) (hw : w < 3) (hN : N < 4) (h : ∀ b ∈ bs, hasLine (mk 4) b = false) : hasLine (mk 4) (manyDue (subOf d) w bs N) = false := by
  have hh := d_head d hd w hw N (by omega)
  simp only [Bool.and_eq_true, Bool.not_eq_true', beq_iff_eq] at hh
  obtain ⟨⟨⟨⟨h1, h2⟩, h3⟩, h4⟩, h5⟩ := hh
  have hm := d_marks N hN
  simp only [Bool.and_eq_true, Bool.not_eq_true'] at hm
  have hn : [45, 45] ++ nmB N = mk N := beq_iff_eq.mp (nm_mk N (by omega))
  have e : manyDue (subOf d) w bs N = headDue (subOf d) w N ++ (bodyDue bs N ++ (mk N ++ [45, 45, 13, 10])) := by
    unfold manyDue; rw [← hn]; simp
  rw [e, hasLine_pre h3 h2, body_no hN bs _ h, hm.2]
theorem many_due {d w N : Nat} {bs : List (List UInt8)} (hd : d < 2) (hw : w < 3) (hN : N < 5) : manyDue (subOf d) w bs N = manyB (subOf d) (lawFields w) bs N := by
  have hh := d_head d hd w hw N hN
  simp only [Bool.and_eq_true, Bool.not_eq_true', beq_iff_eq] at hh
  have hn : [45, 45] ++ nmB N = mk N := beq_iff_eq.mp (nm_mk N (by omega))
  have hm : markOf (bnd N) = mk N := (mk_ok (i := N) (by omega)).1
  unfold manyDue manyB joinB bodyDue
  rw [← hh.1.1.1.1, hm, ← hn]
  simp
theorem exN {bs : List (List UInt8)} : ∀ (B : Nat), anyLine (mk B) bs = false → ∃ N, N ≤ B ∧ (∀ j < N, anyLine (mk j) bs = true) ∧ anyLine (mk N) bs = false := by
  intro B
  induction B using Nat.strongRecOn with
  | _ B ih =>
    intro h
    by_cases q : ∃ j, j < B ∧ anyLine (mk j) bs = false
    · obtain ⟨j, hj, e⟩ := q
      obtain ⟨N, h1, h2, h3⟩ := ih j hj e
      exact ⟨N, by omega, h2, h3⟩
    · refine ⟨B, Nat.le_refl _, fun j hj => ?_, h⟩
      cases e : anyLine (mk j) bs with
      | true => rfl
      | false => exact absurd ⟨j, hj, e⟩ q
theorem any_no {m : List UInt8} {bs : List (List UInt8)} (h : ∀ b ∈ bs, hasLine m b = false) : anyLine m bs = false := by
  unfold anyLine
  rw [List.any_eq_false]
  intro b hb; rw [h b hb]; decide
theorem begins_any {i : Nat} (hi : i < 8) (bs : List (List UInt8)) : (bs.filter fun b => beginsB b (markOf (bnd i))).isEmpty = !anyLine (mk i) bs := by
  rw [any_filter]
  unfold anyLine
  simp only [begins_mk hi]
theorem many_ok {d w N : Nat} {bs : List (List UInt8)} (hd : d < 2) (hw : w < 3) (hN : N < 5) (hlt : ∀ j < N, anyLine (mk j) bs = true) (hno : anyLine (mk N) bs = false) (hz : ∀ x ∈ bs, x.length ≤ 900000) (hl : bs.length ≤ 10) (hne : bs ≠ []) : ManyOk (subOf d) (lawFields w) bs N := by
  have hh := d_head d hd w hw N hN
  simp only [Bool.and_eq_true, Bool.not_eq_true', beq_iff_eq] at hh
  exact ⟨by omega, fun i hi => by rw [begins_any (by omega), hlt i hi]; rfl, by rw [begins_any (by omega), hno]; rfl, hh.1.2, hh.2, fields_ok hw, hz, hl, hne⟩
section
variable {X : Cx} {env : Env} {A : Around} {vm vmc vm' : List (Str × PV)} {gl : Option (Str × List PV)} {k k₁ k' : TS} {n : Nat}
theorem f_piece_leaf {D i : Nat} {cs : List Int} (h : TapeOk cs i) (hi : i ≤ 30000) (h4 : dr cs i 6 ≠ 4) (h5 : ¬ (dr cs i 6 = 5 ∧ D = 0)) : FSpec X (n + 4) (.ref 634) [.tape, .int (D : Int)] (tp cs i) (.tup [lfPV X.w.params (dr cs (i + 1) 3) (dr cs (i + 2) 4) (dr cs (i + 3) 6), .bytes (leafDue (dr cs (i + 1) 3) (dr cs (i + 2) 4) (dr cs (i + 3) 6))]) (tp cs (i + 4)) :=
  fspec o_703 (sBody (stm 107)) [(s_tape, .tape), (s_depth, .int (D : Int))] (.ret (.tup [lfPV X.w.params (dr cs (i + 1) 3) (dr cs (i + 2) 4) (dr cs (i + 3) 6), .bytes (leafDue (dr cs (i + 1) 3) (dr cs (i + 2) 4) (dr cs (i + 3) 6))]) (tp cs (i + 4))) (bind2 fun v u => by kernel_rfl) (fun L => ⟨.inl (by kernel_rfl), rfl, .inl (by kernel_rfl), rfl, trivial⟩)
    (fun L A R => ex_seq (ex_assign (call2 g__law_draw c__law_draw ev_nm ev_int (fsum (n := 1) (f_draw' (lim := 6) h (by omega)) (by omega) R)) (asg_name (by kernel_rfl)))
      (ex_guard ((evb_cmp ev_nm ev_int cmp_eqi).cast (by simp; omega))
      (ex_guard ((evb_bool (evt_and (evb_cmp ev_nm ev_int cmp_eqi) fun _ => evt_and (evb_cmp ev_nm ev_int cmp_eqi) fun _ => evt_and_nil)).cast (by simp; omega))
      (ex_stop (ex_ret (call1 g__law_leaf c__law_leaf ev_nm (fsum (n := 3) (f_law_leaf (h.up (j := i + 1) (by omega)) (by omega)) (by omega) R))))))) ⟨rfl, rfl⟩
theorem f_piece_letter {D i : Nat} {cs : List Int} (h : TapeOk cs i) (hi : i ≤ 30000) (h4 : dr cs i 6 = 4) : FSpec X (n + 4) (.ref 634) [.tape, .int (D : Int)] (tp cs i) (.tup [letterPV (lfPV X.w.params (dr cs (i + 2) 3) (dr cs (i + 3) 4) (dr cs (i + 4) 6)) (fsPV (lawFields (dr cs (i + 1) 3))), .bytes (letterPre (dr cs (i + 1) 3) ++ leafDue (dr cs (i + 2) 3) (dr cs (i + 3) 4) (dr cs (i + 4) 6))]) (tp cs (i + 5)) :=
  fspec o_703 (sBody (stm 107)) [(s_tape, .tape), (s_depth, .int (D : Int))] (.ret (.tup [letterPV (lfPV X.w.params (dr cs (i + 2) 3) (dr cs (i + 3) 4) (dr cs (i + 4) 6)) (fsPV (lawFields (dr cs (i + 1) 3))), .bytes (letterPre (dr cs (i + 1) 3) ++ leafDue (dr cs (i + 2) 3) (dr cs (i + 3) 4) (dr cs (i + 4) 6))]) (tp cs (i + 5))) (bind2 fun v u => by kernel_rfl) (fun L => ⟨.inl (by kernel_rfl), rfl, .inl (by kernel_rfl), rfl, trivial⟩)
    (fun L A R => by
      have b1 := dr_lt (cs := cs) (i := i + 1) (lim := 3) (by omega)
      have b2 := dr_lt (cs := cs) (i := i + 2) (lim := 3) (by omega)
      have b3 := dr_lt (cs := cs) (i := i + 3) (lim := 4) (by omega)
      have b4 := dr_lt (cs := cs) (i := i + 4) (lim := 6) (by omega)
      have hd := due_small _ b2 _ b3 _ b4
      have ht := told_small (dr cs (i + 1) 3)
      exact ex_seq (ex_assign (call2 g__law_draw c__law_draw ev_nm ev_int (fsum (n := 1) (f_draw' (lim := 6) h (by omega)) (by omega) R)) (asg_name (by kernel_rfl)))
        (ex_stop (ex_if (c := true) ((evb_cmp ev_nm ev_int cmp_eqi).cast (by rw [h4]; rfl)) (fun _ =>
        ex_seq (ex_assign (call1 g__law_fields c__law_fields ev_nm (fsum (n := 2) (f_law_fields (h.up (j := i + 1) (by omega))) (by omega) R)) (asg_tup R.hh (.cons (asg_name (by kernel_rfl)) (.cons (asg_name (by kernel_rfl)) .nil))))
        (ex_seq (ex_assign (call1 g__law_leaf c__law_leaf ev_nm (fsum (n := 3) (f_law_leaf (h.up (j := i + 2) (by omega)) (by omega)) (by omega) R)) (asg_tup R.hh (.cons (asg_name (by kernel_rfl)) (.cons (asg_name (by kernel_rfl)) .nil))))
        (ex_stop (ex_ret (ev_tuple (a2 (call2 g_Letter822 c_Letter ev_nm ev_nm (mk_Letter R)) (ev_bin (ev_bin (ev_bin ev_bytes ev_nm (bin_addb (by simp only [List.length_cons, List.length_nil]; omega))) ev_bytes (bin_addb (by simp only [List.length_append, List.length_cons, List.length_nil]; omega))) ev_nm (bin_addb (by simp only [List.length_append, List.length_cons, List.length_nil]; omega))))))))) (fun h => nomatch h)))) ⟨rfl, rfl⟩
theorem f_piece_many {i j : Nat} {cs : List Int} {p : PV} (h : TapeOk cs i) (h5 : dr cs i 6 = 5) (hm : FSpec X n (.ref 644) [.tape, .int (1 : Nat)] (tp cs (i + 1)) p (tp cs j)) (hn : 1 ≤ n) : FSpec X (n + 1) (.ref 634) [.tape, .int (0 : Nat)] (tp cs i) p (tp cs j) :=
  fspec o_703 (sBody (stm 107)) [(s_tape, .tape), (s_depth, .int (0 : Nat))] (.ret p (tp cs j)) (bind2 fun v u => by kernel_rfl) (fun L => ⟨.inl (by kernel_rfl), rfl, .inl (by kernel_rfl), rfl, trivial⟩)
    (fun L A R => ex_seq (ex_assign (call2 g__law_draw c__law_draw ev_nm ev_int (fsum (n := 1) (f_draw' (lim := 6) h (by omega)) (by omega) R)) (asg_name (by kernel_rfl)))
      (ex_guard ((evb_cmp ev_nm ev_int cmp_eqi).cast (by rw [h5]; rfl))
      (ex_stop (ex_if (c := true) ((evb_bool (evt_and (evb_cmp ev_nm ev_int cmp_eqi) fun _ => evt_and (evb_cmp ev_nm ev_int cmp_eqi) fun _ => evt_and_nil)).cast (by rw [h5]; rfl)) (fun _ => ex_stop (ex_ret (call2 g__law_many c__law_many ev_nm ev_int (fsum (n := n) hm (by omega) R)))) (fun h => nomatch h))))) ⟨rfl, rfl⟩

/-- a piece drawn at i: what it is, that it is built so -/
noncomputable def Good (X : Cx) (n m D : Nat) (cs : List Int) (i st z : Nat) (B : List Nat) : Prop := ∃ p b j, i ≤ j ∧ j ≤ i + st ∧ FSpec X n (.ref 634) [.tape, .int (D : Int)] (tp cs i) (pairPV (p, b)) (tp cs j) ∧ Built X m p b ∧ b.length ≤ z ∧ ∀ t ∈ B, hasLine (mk t) b = false
theorem good_small {D i : Nat} {cs : List Int} (h : TapeOk cs i) (hi : i ≤ 30000) (h5 : ¬ (dr cs i 6 = 5 ∧ D = 0)) : Good X 4 11 D cs i 5 500 [3, 4] := by
  by_cases h4 : dr cs i 6 = 4
  · have b1 := dr_lt (cs := cs) (i := i + 1) (lim := 3) (by omega)
    have b2 := dr_lt (cs := cs) (i := i + 2) (lim := 3) (by omega)
    have b3 := dr_lt (cs := cs) (i := i + 3) (lim := 4) (by omega)
    have b4 := dr_lt (cs := cs) (i := i + 4) (lim := 6) (by omega)
    have hd := due_small _ b2 _ b3 _ b4
    obtain ⟨l1, l2, l3⟩ := leaf_due b2 b3 b4
    obtain ⟨q1, q2, q3, q4⟩ := letter_due b1 (leafDue (dr cs (i + 2) 3) (dr cs (i + 3) 4) (dr cs (i + 4) 6))
    refine ⟨letterPV (lfPV X.w.params (dr cs (i + 2) 3) (dr cs (i + 3) 4) (dr cs (i + 4) 6)) (fsPV (lawFields (dr cs (i + 1) 3))), letterPre (dr cs (i + 1) 3) ++ leafDue (dr cs (i + 2) 3) (dr cs (i + 3) 4) (dr cs (i + 4) 6), i + 5, by omega, by omega, f_piece_letter (n := 0) h hi h4, ?_, by rw [List.length_append]; omega, forall2 (by rw [q2]; exact l2) (by rw [q3]; exact l3)⟩
    rw [q1]
    have hb : Built X 8 (lfPV X.w.params (dr cs (i + 2) 3) (dr cs (i + 3) 4) (dr cs (i + 4) 6)) (leafDue (dr cs (i + 2) 3) (dr cs (i + 3) 4) (dr cs (i + 4) 6)) := by
      rw [l1]; exact f_built_leaf (leaf_ok b2 b3 b4)
    exact f_built_letter hb rfl (fields_ok b1) (by omega) (by omega)
  · have b2 := dr_lt (cs := cs) (i := i + 1) (lim := 3) (by omega)
    have b3 := dr_lt (cs := cs) (i := i + 2) (lim := 4) (by omega)
    have b4 := dr_lt (cs := cs) (i := i + 3) (lim := 6) (by omega)
    have hd := due_small _ b2 _ b3 _ b4
    obtain ⟨l1, l2, l3⟩ := leaf_due b2 b3 b4
    refine ⟨lfPV X.w.params (dr cs (i + 1) 3) (dr cs (i + 2) 4) (dr cs (i + 3) 6), leafDue (dr cs (i + 1) 3) (dr cs (i + 2) 4) (dr cs (i + 3) 6), i + 4, by omega, by omega, f_piece_leaf (n := 0) h hi h4 h5, ?_, by omega, forall2 l2 l3⟩
    rw [l1]
    exact (f_built_leaf (n := 0) (leaf_ok b2 b3 b4)).le (by omega)
theorem good_chain {m D st z M : Nat} {cs : List Int} {B : List Nat} (hg : ∀ i ≤ M, Good X n m D cs i st z B) : ∀ (c i : Nat), i + st * c ≤ M → ∃ l e, Chain X n D cs i l e ∧ l.length = c ∧ i ≤ e ∧ e ≤ i + st * c ∧ (∀ q ∈ l, Built X m q.1 q.2) ∧ (∀ x ∈ l.map Prod.snd, x.length ≤ z) ∧ ∀ t ∈ B, ∀ x ∈ l.map Prod.snd, hasLine (mk t) x = false
  | 0, i, _ => ⟨[], i, .nil, rfl, by omega, by omega, by simp, by simp, by simp⟩
  | c + 1, i, h => by
    rw [Nat.mul_add, Nat.mul_one] at h
    obtain ⟨p, b, j, h1, h2, h3, h4, h5, h6⟩ := hg i (by omega)
    obtain ⟨l, e, g1, g2, g3, g4, g5, g6, g7⟩ := good_chain hg c j (by omega)
    refine ⟨(p, b) :: l, e, .cons h3 g1, by simp [g2], by omega, by rw [Nat.mul_add, Nat.mul_one]; omega, fun q hq => ?_, fun x hx => ?_, fun t ht x hx => ?_⟩
    · rcases List.mem_cons.mp hq with rfl | hq
      · exact h4
      · exact g5 q hq
    · rw [List.map_cons] at hx
      rcases List.mem_cons.mp hx with rfl | hx
      · exact h5
      · exact g6 x hx
    · rw [List.map_cons] at hx
      rcases List.mem_cons.mp hx with rfl | hx
      · exact h6 t ht
      · exact g7 t ht x hx
/-- a multipart drawn at i -/
noncomputable def GoodM (X : Cx) (n m D : Nat) (cs : List Int) (i st z T : Nat) : Prop := ∃ (d w N : Nat) (l : List (PV × List UInt8)) (j : Nat), d < 2 ∧ w < 3 ∧ N ≤ T ∧ i ≤ j ∧ j ≤ i + st ∧ FSpec X n (.ref 644) [.tape, .int (D : Int)] (tp cs i) (.tup [manyPV (subOf d) (l.map Prod.fst) (fsPV (lawFields w)), .bytes (manyDue (subOf d) w (l.map Prod.snd) N)]) (tp cs j) ∧
  ManyOk (subOf d) (lawFields w) (l.map Prod.snd) N ∧ (∀ q ∈ l, Built X m q.1 q.2) ∧ (∀ x ∈ l.map Prod.snd, x.length ≤ z) ∧ (l.map Prod.snd).length ≤ 3 ∧ ∀ x ∈ l.map Prod.snd, T < 4 → hasLine (mk 4) x = false
theorem good_many {m D st z T i M : Nat} {cs : List Int} {B : List Nat} (h : TapeOk cs i) (hi : i ≤ 40000) (hM : i + 3 + st * 3 ≤ M) (hz : z ≤ 200000) (hD : D ≤ 1) (hn4 : 4 ≤ n) (hT : T ∈ B) (hT4 : T ≤ 4) (h4 : 4 ∈ B) (hg : ∀ i ≤ M, Good X n m D cs i st z B) : GoodM X (n + 1) m D cs i (st * 3 + 3) z T := by
  have b1 := dr_lt (cs := cs) (i := i) (lim := 3) (by omega)
  have b2 := dr_lt (cs := cs) (i := i + 1) (lim := 2) (by omega)
  have b3 := dr_lt (cs := cs) (i := i + 2) (lim := 3 - D) (by omega)
  have hmul : st * (1 + dr cs (i + 2) (3 - D)) ≤ st * 3 := Nat.mul_le_mul_left st (by omega)
  obtain ⟨l, e, g1, g2, g3, g4, g5, g6, g7⟩ := good_chain hg (1 + dr cs (i + 2) (3 - D)) (i + 3) (by omega)
  obtain ⟨N, n1, n2, n3⟩ := exN T (any_no (g7 T hT))
  refine ⟨dr cs (i + 1) 2, dr cs i 3, N, l, e, b2, b1, n1, by omega, by omega, f_law_many h (by omega) hD hn4 g1 g2 (by omega) n2 n3 (fun x hx => by have := g6 x hx; omega), many_ok b2 b1 (by omega) n2 n3 (fun x hx => by have := g6 x hx; omega) (by rw [List.length_map]; omega) ?_, g5, g6, by rw [List.length_map]; omega, fun x hx _ => g7 4 h4 x hx⟩
  intro e
  have := congrArg List.length e
  rw [List.length_map, g2] at this
  simp at this
theorem manyDue_len {d w N z : Nat} {bs : List (List UInt8)} (hz : ∀ x ∈ bs, x.length ≤ z) (hl : bs.length ≤ 3) : (manyDue (subOf d) w bs N).length ≤ (z + 20) * 3 + 300 := by
  have h1 := headDue_len d w N
  have h2 := bodyDue_len (N := N) hz hl
  have h3 : (nmB N).length = 7 := by unfold nmB; simp
  unfold manyDue
  simp only [List.length_append, List.length_cons, List.length_nil]
  omega
theorem good_piece0 {cs : List Int} (hc : TapeOk cs 0) : ∀ i ≤ 15000, Good X 6 13 0 cs i 20 5000 [4] := by
  intro i hi
  have h := hc.up (j := i) (by omega)
  by_cases h5 : dr cs i 6 = 5
  · obtain ⟨d, w, N, l, j, g1, g2, g3, g4, g5, g6, g7, g8, g9, g10, g11⟩ := good_many (X := X) (n := 4) (m := 11) (D := 1) (st := 5) (z := 500) (T := 3) (B := [3, 4]) (M := 30000) (i := i + 1) (cs := cs) (hc.up (by omega)) (by omega) (by omega) (by omega) (by omega) (by omega) (by decide) (by omega) (by decide) (fun i hi => good_small (hc.up (by omega)) hi (by omega))
    have hlen := manyDue_len (d := d) (w := w) (N := N) g9 g10
    refine ⟨manyPV (subOf d) (l.map Prod.fst) (fsPV (lawFields w)), manyDue (subOf d) w (l.map Prod.snd) N, j, by omega, by omega, f_piece_many (n := 5) h h5 g6 (by omega), ?_, by omega, fun t ht => ?_⟩
    · rw [many_due g1 g2 (by omega)]
      exact f_built_many g7 g8 (by omega)
    · have : t = 4 := by simpa using ht
      subst this
      exact many_no g1 g2 (by omega) fun b hb => g11 b hb (by omega)
  · obtain ⟨p, b, j, g1, g2, g3, g4, g5, g6⟩ := good_small (X := X) (D := 0) h (by omega) (fun q => h5 q.1)
    exact ⟨p, b, j, g1, by omega, g3.le (by omega), g4.le (by omega), by omega, fun t ht => g6 t (by simp at ht; subst ht; decide)⟩
/-- the law's multipart, and what many_octets makes of it -/
theorem law_main {cs : List Int} (hc : TapeOk cs 0) : ∃ p b j, FSpec X 7 (.ref 644) [.tape, .int (0 : Nat)] (tp cs 0) (.tup [p, .bytes b]) (tp cs j) ∧ (∀ k, FSpec X 14 (.ref 575) [p] k (.bytes b) k) ∧ plainPV p = true := by
  obtain ⟨d, w, N, l, j, g1, g2, g3, g4, g5, g6, g7, g8, g9, g10, g11⟩ := good_many (X := X) (n := 6) (m := 13) (D := 0) (st := 20) (z := 5000) (T := 4) (B := [4]) (M := 15000) (i := 0) (cs := cs) hc (by omega) (by omega) (by omega) (by omega) (by omega) (by decide) (by omega) (by decide) (fun i hi => good_piece0 hc i hi)
  refine ⟨manyPV (subOf d) (l.map Prod.fst) (fsPV (lawFields w)), manyDue (subOf d) w (l.map Prod.snd) N, j, g6, fun k => ?_, rfl⟩
  rw [many_due g1 g2 (by omega)]
  exact f_many_octets g7 g8 (by omega)
end
theorem PS.trans {a b c : Shared} (x : PS a b) (y : PS b c) : PS a c := by
  obtain ⟨⟨h, t, rfl⟩, k⟩ := x
  obtain ⟨⟨h', t', rfl⟩, k'⟩ := y
  exact ⟨⟨h', t', rfl⟩, fun b o e => k' b o (k b o e)⟩
theorem PS.push (s : Shared) (o : Obj) (tk : Nat) : PS s { s with heap := s.heap.push o, toks := tk } := ⟨⟨_, _, rfl⟩, fun b p e => Heap.get?_push_of_some _ e⟩
theorem cut_headG {α : Type} {l : List α} {k : Nat} : cut l none (some (k : Int)) = l.take k := by
  unfold cut
  simp only [Option.elim]
  rw [clip_some (by omega), show ((k : Int)).toNat = k by omega, List.drop_zero, Nat.sub_zero]
  by_cases hk : k ≤ l.length
  · rw [Nat.min_eq_left hk]
  · rw [Nat.min_eq_right (by omega), List.take_of_length_le (Nat.le_refl _), List.take_of_length_le (by omega)]
theorem ints_vrs {t : Addr} {F : FMap} {ws : List Value} {cs : List Int} (h : IntsAre ws cs) : VRs t F (cs.map .int) ws := by
  induction h with
  | nil => exact vrs_nil
  | cons n tk _ ih => exact .cons vr_int ih
section
variable {p : Program} {w : World} {A : Around} {env : Env} {s : Shared} {E : Value → Shared → Prop} {Q : Value → Shared → Prop} {m mg mb : Str → Option Value}
theorem raw_letTemp {e : PySem.Expr} {o r : Value} {Q : Unit → Shared → Prop} (h : Q () s) : wpAny (model p w) A (letTemporaryGo e o r) Q E s := by
  have go : wpAny (model p w) A (do let _ ← holding [r] (runValue (.builtin "proto.let_go" {})) : Sem Unit) Q E s :=
    wpAny_bind (wpAny_holding (wpAny_runValue (codeAny_builtin entry_let_go (show wpAny _ _ (ret .none) _ _ s from wpAny_pure (wpAny_pure h)))))
  unfold letTemporaryGo
  split
  · exact wpAny_pure h
  · exact go
  · exact wpAny_pure h
theorem raw_slice {a₀ : Addr} {vs : List Value} {n : Nat} {p1 p2 p3 pos : Pos} (hk : env.scope.kind = .function) (hl : env.kindOf s_script = some .local) (hn : s.heap.Ns env.locals m) (hm : m s_script = some (.ref a₀)) (hL : s.heap.IsList a₀ vs.toArray) (hlen : vs.length ≤ 63)
    (q : ∀ s' D, PS s s' → IsL s'.heap D (vs.take 40).toArray 0 → Q (.ref D) s') : wpAny (model p w) A (eval (.Subscript (.Name s_script p1) (.Slice none (some (.Constant (.int 40) n p2)) none p3) pos) env) Q E s := by
  rw [eval_Subscript]
  refine wpAny_bind (wpAny_Name (wpAny_loadName_local hk hl hn hm (wpAny_bind (wpAny_holding (wpAny_Slice ?_)))) (by decide))
  rw [evalPart_none]
  refine wpAny_pure ?_
  show wpAny _ _ (eval (.Constant (.int 40) n p2) env) _ _ _
  refine wpAny_Constant_int ?_
  refine wpAny_pure ?_
  refine wpAny_bind (wpAny_standAt ?_)
  dsimp only
  have hL2 : (s.heap.push { cls := .type "slice", data := .fields #[.none, .int 40 s.toks, .none] }).IsList a₀ vs.toArray := IsList.keeps hL fun o e => Heap.get?_push_of_some _ e
  refine wpAny_bind ?_
  have hT : Shared.TypeIs { s with heap := s.heap.push { cls := .type "slice", data := .fields #[.none, .int 40 s.toks, .none] }, toks := s.toks + 1 } (.ref a₀) "list" := hL2.typeIs
  rw [getitemInPython_of_ne hT.not_modules]
  refine wpAny_bind (wpAny_specialOf hT list_getitem_lookup ?_)
  have fin : wpAny (model p w) A (subscripted (.Slice none (some (.Constant (.int 40) n p2)) none p3) false (.ref a₀) (.ref s.heap.objs.size)) (fun r s₃ => wpAny (model p w) A (letTemporaryGo (.Name s_script p1) (.ref a₀) r >>= fun _ => pure r) Q E s₃) E
      { s with heap := s.heap.push { cls := .type "slice", data := .fields #[.none, .int 40 s.toks, .none] }, toks := s.toks + 1 } := by
    obtain ⟨ops, hs⟩ : ∃ ops, subscripted (.Slice none (some (.Constant (.int 40) n p2)) none p3) false (.ref a₀) (.ref s.heap.objs.size) = operate ops (getItem (.ref a₀) (.ref s.heap.objs.size)) := ⟨_, rfl⟩
    rw [hs]
    refine wpAny_operating (wpAny_getItem_list_slice hL2 (Heap.IsSliceOf.new _ _ _ _) .none (.int _ _) .none (by simp) ?_ (by simp [sizeLine]; omega))
    refine wpAny_bind (raw_letTemp (wpAny_pure (q _ _ ?_ ?_)))
    · exact (PS.push s _ _).trans (PS.push _ _ _)
    · have e : slicePick vs.toArray none (some 40) none = (vs.take 40).toArray := by
        rw [← Array.toList_inj, slicePick_plain]
        have := cut_headG (l := vs) (k := 40)
        simpa [cut] using this
      rw [e]
      exact Heap.get?_push_size _ rfl
  first
    | exact wpAny_pure (wpAny_bind fin)
    | exact wpAny_bind (wpAny_pure (wpAny_bind fin))
    | exact wpAny_bind fin
end
section
variable {p : Program} {w : World} {A : Around} {env : Env} {s : Shared} {E : Value → Shared → Prop} {Q : Value → Shared → Prop} {m mg mb : Str → Option Value}
theorem raw_or2 {e e' : PySem.Expr} {pos : Pos} (h : wpAny (model p w) A (eval e env) (fun v s₁ => wpAny (model p w) A (truthy v) (fun t s₂ => if t = true then Q v s₂ else wpAny (model p w) A (eval e' env) Q E s₂) E s₁) E s) : wpAny (model p w) A (eval (.BoolOp .Or [e, e'] pos) env) Q E s := by
  rw [arm_eval_BoolOp]
  show wpAny (model p w) A (do
      let v ← eval e env
      standAt pos
      let t ← holding [v] (truthy v)
      match BoolOp.Or, t with
      | .And, false | .Or, true => pure v
      | _, _ => boolOp pos .Or [eval e' env]) Q E s
  refine wpAny_bind (wpAny_mono h (fun v s₁ h₁ => wpAny_bind (wpAny_standAt (wpAny_bind (wpAny_holding (wpAny_mono h₁ (fun t s₂ h₂ => ?_) fun _ _ x => x))))) fun _ _ x => x)
  cases t with
  | true => rw [if_pos rfl] at h₂; exact wpAny_pure h₂
  | false => rw [if_neg (by decide)] at h₂; exact h₂
theorem raw_list {x : Str} {px pos : Pos} {e : PySem.Expr} (hk : env.scope.kind = .function) (hx : env.kindOf x = some .globalImplicit) (hg : s.heap.Ns env.globals mg) (hmiss : mg x = none) (hb : s.heap.Ns env.builtins mb) (hv : mb x = some (.type "list"))
    (he : starEach [e] env = (false, eval e env) :: starEach [] env) (hsh : eval (.Call (.Name x px) [e] [] pos) env = (eval (.Name x px) env >>= fun u => callWith pos u [] (backTo pos (starEach [e] env)) []))
    (h : wpAny (model p w) A (eval e env) (fun u s₁ => wpAny (model p w) A (call (.type "list") [u]) Q E s₁) E s) (hd : (x == ("__debug__" : Str)) = false := by decide) : wpAny (model p w) A (eval (.Call (.Name x px) [e] [] pos) env) Q E s := by
  rw [hsh]
  refine wpAny_bind (Name_function_global hk hx (loadGlobal_builtin hg hmiss hb hv ?_) hd)
  rw [he]
  refine PyProof.Rows.callWith_type rfl (evalArgs_plain (spliced_cons (wpAny_mono h (fun u s₁ h₁ => spliced_nil h₁) fun _ _ x => x)))
theorem fresh_old {s s' : Shared} (x : PS s s') {a : Addr} (h : s'.heap.objs.size ≤ a) : s.heap.get? a = none := by
  cases e : s.heap.get? a with
  | none => rfl
  | some o => exact absurd (Heap.lt_size (x.keep _ _ e)) (Nat.not_lt.mpr h)
theorem ints_len {vs : List Value} {ns : List Int} (h : IntsAre vs ns) : vs.length = ns.length := by
  induction h with
  | nil => rfl
  | cons _ _ _ ih => simp [ih]
/-- the law's tape: its display -/
theorem tape_made {a₀ : Addr} {vs : List Value} {ns : List Int} {n n2 n3 : Nat} {px p1 p2 p3 pos pos1 pos2 pos3 pos4 pos5 pos6 : Pos} (hk : env.scope.kind = .function) (hl : env.kindOf s_script = some .local) (hn : s.heap.Ns env.locals m) (hm : m s_script = some (.ref a₀)) (hL : s.heap.IsList a₀ vs.toArray) (hI : IntsAre vs ns) (hlen : ns.length ≤ 63)
    (hx : env.kindOf s_list = some .globalImplicit) (hg : s.heap.Ns env.globals mg) (hmiss : mg s_list = none) (hb : s.heap.Ns env.builtins mb) (hv : mb s_list = some (.type "list"))
    (q : ∀ s' c ws cs k tk, PS s s' → IsL s'.heap c ws.toArray k → IntsAre ws cs → cs ≠ [] → cs.length ≤ 1000 → s.heap.get? c = none → Q (.ref s'.heap.objs.size) { s' with heap := s'.heap.push { cls := .type "list", data := .seq [Value.ref c, .int 0 tk].toArray } }) :
    wpAny (model p w) A (eval (.List [.BoolOp .Or [.Call (.Name s_list px) [.Subscript (.Name s_script p1) (.Slice none (some (.Constant (.int 40) n p2)) none p3) pos] [] pos1, .List [.Constant (.int 0) n2 pos2] pos3] pos4, .Constant (.int 0) n3 pos5] pos6) env) Q E s := by
  have hvl : vs.length ≤ 63 := by rw [ints_len hI]; exact hlen
  refine wpAny_List ?_
  show wpAny _ _ (spliced (backTo pos6 [(false, eval (.BoolOp .Or [.Call (.Name s_list px) [.Subscript (.Name s_script p1) (.Slice none (some (.Constant (.int 40) n p2)) none p3) pos] [] pos1, .List [.Constant (.int 0) n2 pos2] pos3] pos4) env), (false, eval (.Constant (.int 0) n3 pos5) env)])) _ _ _
  -- what is done with the cells' list
  have last : ∀ s' c ws cs k, PS s s' → IsL s'.heap c ws.toArray k → IntsAre ws cs → cs ≠ [] → cs.length ≤ 1000 → s.heap.get? c = none →
      wpAny (model p w) A (spliced (backTo pos6 [(false, eval (.Constant (.int 0) n3 pos5) env)])) (fun vs s'' => ([Value.ref c] ++ vs).length ≤ sizeLine ∧ Q (.ref s''.heap.objs.size) { s'' with heap := s''.heap.push { cls := .type "list", data := .seq ([Value.ref c] ++ vs).toArray } }) E s' := by
    intro s' c ws cs k hs hc hw hne hcl hf
    refine spliced_cons (wpAny_Constant_int (k := n3) (pos := pos5) (spliced_nil ⟨by simp [sizeLine], ?_⟩))
    exact q { s' with toks := s'.toks + 1 } c ws cs k s'.toks (hs.trans ⟨⟨_, _, rfl⟩, fun _ _ e => e⟩) hc hw hne hcl hf
  refine spliced_cons (raw_or2 (raw_list hk hx hg hmiss hb hv rfl rfl (raw_slice hk hl hn hm hL hvl fun s₁ D hs₁ hD => ?_)))
  have hDl : (vs.take 40).length ≤ 40 := by simp; omega
  refine call_list_seq D (.inl rfl) hD rfl rfl (fun h' c' hkeep hc => ?_) (by simp [sizeLine]; omega)
  have hs₂ : PS s { s₁ with heap := h' } := hs₁.trans ⟨⟨_, _, rfl⟩, hkeep⟩
  have hc' : IsL h' s₁.heap.objs.size (vs.take 40).toArray c' := hc
  refine wpAny_truthy_list ⟨_, hc', rfl, _, rfl⟩ (by simp; omega) ?_
  have hs₃ : PS s { s₁ with heap := h', toks := s₁.toks + 1 + 1 } := hs₂.trans ⟨⟨_, _, rfl⟩, fun _ _ e => e⟩
  split
  · rename_i ht
    refine last _ _ (vs.take 40) (ns.take 40) c' hs₃ hc' (hI.take 40) ?_ (by simp; omega) (fresh_old hs₁ (Nat.le_refl _))
    intro e
    have h1 := ints_len (hI.take 40)
    rw [e] at h1
    have : vs.take 40 = [] := List.length_eq_zero_iff.mp (by simpa using h1)
    rw [this] at ht
    simp at ht
  · refine wpAny_List ?_
    show wpAny _ _ (spliced (backTo pos3 [(false, eval (.Constant (.int 0) n2 pos2) env)])) _ _ _
    refine spliced_cons (wpAny_Constant_int (k := n2) (pos := pos2) (spliced_nil ⟨by simp [sizeLine], ?_⟩))
    refine last _ _ [.int 0 (s₁.toks + 1 + 1)] [0] 0 (hs₃.trans (PS.push _ _ _)) (Heap.get?_push_size _ rfl) (.cons 0 _ .nil) (by simp) (by simp) (fresh_old hs₃ (Nat.le_refl _))
end
noncomputable def s_due' : Str := s_due
noncomputable abbrev lawFd (pm cd doc : Value) : FuncData := docDef dLaw.name dLaw.params dLaw.body dLaw.scope pm cd doc
/-- the law behind its first row -/
theorem law_rest {X : Cx} {A : Around} {pm cd doc : Value} {L fa : Addr} {cs : List Int} {b1 b2 : List PySem.Stmt} (R : Room A 20) (hc : TapeOk cs 0) (hb : dLaw.body.drop 1 = b1) : ∃ k', Ex X (callEnvC (lawFd pm cd doc) L fa) A [(s_tape, .tape)] none (tp cs 0) (execs b1 (callEnvC (lawFd pm cd doc) L fa)) (.ret (.bool true) k') := by
  obtain ⟨p, b, j, h1, h2, h3⟩ := law_main (X := X) hc
  refine ⟨tp cs j, ?_⟩
  subst hb
  exact ex_seq (ex_assign (call2 g__law_many c__law_many ev_nm ev_int (fsum (n := 7) h1 (by omega) R)) (asg_tup R.hh (.cons (asg_name (by kernel_rfl)) (.cons (asg_name (by kernel_rfl)) .nil))))
    (ex_stop (ex_ret ((ev_cmp (call1 g_many_octets c_many_octets ev_nm (fsum (n := 14) (h2 _) (by omega) R)) ev_nm cmp_eqb).cast (by simp))))
theorem no_cells {pm cd doc : Value} {L fa : Addr} : (callEnvC (lawFd pm cd doc) L fa).cells = [] := by kernel_rfl
theorem room_law {env : Env} : Room (callerA.deeper env) 20 := ⟨rfl, by show 1 + claimMargin + 1 + 2 * 20 + 2 ≤ 1000; decide, by show 4 + 3 + 10 * 20 + 30 ≤ 9900; decide⟩
theorem law_call {p : Program} {w : World} {s₁ : Shared} {mg mb : Str → Option Value} (inK : (KK w).In s₁.heap) (g : s₁.heap.Ns mainGlobals mg) (b : s₁.heap.Ns builtinsNs mb) (bb : ∀ x : Str, x ≠ "__name__" → mb x = bootBuiltins x) (nl : s₁.heap.NoLimit) {fa a₀ : Addr} {o : Obj} {pm cd doc : Value}
    (ho : s₁.heap.get? fa = some o) (hd : o.data = .func (lawFd pm cd doc)) (hcd : s₁.heap.CodeRec cd dLaw.name) {vs : List Value} {ns : List Int} (hL : s₁.heap.IsList a₀ vs.toArray) (hI : IntsAre vs ns) (hlen : ns.length ≤ 63) {Q E : Value → Shared → Prop}
    (q : ∀ s', (∃ h tk, s' = { s₁ with heap := h, toks := tk }) → (∀ b o, s₁.heap.get? b = some o → s'.heap.get? b = some o) → Q (.bool true) s') : wpAny (model p w) callerA (call (.ref fa) [.ref a₀]) Q E s₁ := by
  refine wpAny_call (codeAny_call_function (fd := lawFd pm cd doc) (body := dLaw.body) (by decide) ho hd (by kernel_rfl) (by kernel_rfl) rfl hcd ?_)
  have hpk : peek (KK w) ⟨p, w.params⟩ (bindArgs (lawFd pm cd doc) ⟨[.ref a₀], []⟩) = some [(s_script, .ref a₀)] := by kernel_rfl
  refine Looks.of_peek (M := model p w) (h := s₁.heap) inK hpk _ _ _ _ (fun _ _ e => e) ?_
  have hkd : (lawFd pm cd doc).scope.kind = .function := by kernel_rfl
  refine wpAny_newFunctionEnv_cells hkd (fun x hx => by rw [List.mem_singleton] at hx; subst hx; exact .inl (by kernel_rfl)) fun env he s' x => ?_
  subst he
  refine ⟨nl.keeps x.toInCall.keep, codeAny_func ?_⟩
  show wpAny (model p w) (callerA.deeper (callEnvC (lawFd pm cd doc) s₁.heap.objs.size fa)) (execs dLaw.body (callEnvC (lawFd pm cd doc) s₁.heap.objs.size fa)) _ _ s'
  obtain ⟨h', tk, rfl, hk'⟩ := x.done
  have hns := x.toInCall.ns
  have hsc : (bindL (callEnvC (lawFd pm cd doc) s₁.heap.objs.size fa).kindOf [(s_script, Value.ref a₀)] fun _ => none) s_script = some (.ref a₀) := by
    unfold bindL bindL
    rw [if_pos (by kernel_rfl)]
    exact if_pos rfl
  have hmiss : mg s_list = none := by
    have X0 : Cx := ⟨p, w, s₁.heap, 0, mg, mb, inK, g, b, bb, nl⟩
    have := Cx.mg_eq ⟨p, w, s₁.heap, 0, mg, mb, inK, g, b, bb, nl⟩ (x := s_list) (r := none) (by kernel_rfl)
    exact this
  refine wpAny_execs_cons (wpAny_Assign_stores (tape_made (mg := mg) (mb := mb) hkd (by kernel_rfl) hns hsc (IsList.keeps hL fun o e => hk' _ o e) hI hlen (by kernel_rfl) (g.keeps hk') hmiss (b.keeps hk') ((bb _ (by decide)).trans rfl) fun s' c ws cs k tk₂ hps hc hw hne hcl hfr => ?_) (by rfl) (by rfl))
  have kall : ∀ a o, s₁.heap.get? a = some o → s'.heap.get? a = some o := fun a o e => hps.keep a o (hk' a o e)
  have hc1 : s₁.heap.get? c = none := by
    cases e : s₁.heap.get? c with
    | none => rfl
    | some o => have := hk' _ _ e; rw [hfr] at this; cases this
  have hT1 : s₁.heap.get? s'.heap.objs.size = none := by
    cases e : s₁.heap.get? s'.heap.objs.size with
    | none => rfl
    | some o => have := kall _ _ e; rw [get_size] at this; cases this
  have hcT : c ≠ s'.heap.objs.size := Nat.ne_of_lt (Heap.lt_size hc)
  -- the layer's context: the tape stands
  let X : Cx := ⟨p, w, s₁.heap, s'.heap.objs.size, mg, mb, inK, g, b, bb, nl⟩
  let F₁ : FMap := FMap.put s₁.heap.get? c { cls := .type "list", data := .seq ws.toArray k }
  have hFx : FExt s₁.heap.get? F₁ := FMap.put_ext hc1
  have hF1 : ∀ a o, F₁ a = some o → a = c ∧ o = { cls := .type "list", data := .seq ws.toArray k } ∨ s₁.heap.get? a = some o := fun a o e => by
    by_cases h : a = c
    · have e' : F₁ a = some { cls := .type "list", data := .seq ws.toArray k } := if_pos h
      rw [e'] at e; cases e; exact .inl ⟨h, rfl⟩
    · have e' : F₁ a = s₁.heap.get? a := if_neg h
      rw [e'] at e; exact .inr e
  have hFn : ∀ a, a ≠ c → s₁.heap.get? a = none → F₁ a = none := fun a h e => (show F₁ a = s₁.heap.get? a from if_neg h).trans e
  have hbase : Base X (tp cs 0) F₁ (s'.heap.push { cls := .type "list", data := .seq [Value.ref c, .int 0 tk₂].toArray }) := by
    refine ⟨hFx, fun a o e => ?_, hFn _ (Ne.symm hcT) hT1, ⟨.ref c, tk₂, ?_, ⟨_, Heap.get?_push_size _ rfl, rfl, _, rfl⟩⟩, ⟨_, Heap.get?_push_size _ rfl⟩⟩
    · rcases hF1 a o e with ⟨rfl, rfl⟩ | e
      · exact Heap.get?_push_of_some _ hc
      · exact Heap.get?_push_of_some _ (kall a o e)
    · simp only [VR]
      exact ⟨c, ws, rfl, ⟨_, FMap.put_self, rfl, k, rfl⟩, ints_vrs hw⟩
  obtain ⟨⟨h₂, tk₃, hs'⟩, _⟩ := id hps
  have hLs : s'.heap.Ns (callEnvC (lawFd pm cd doc) s₁.heap.objs.size fa).locals (bindL (callEnvC (lawFd pm cd doc) s₁.heap.objs.size fa).kindOf [(s_script, Value.ref a₀)] fun _ => none) := hns.keeps hps.keep
  have hLnew : s₁.heap.get? (callEnvC (lawFd pm cd doc) s₁.heap.objs.size fa).locals = none := get_size _
  obtain ⟨oL, _, _, hLo, hLd⟩ := Ns.obj hns
  have hLc : (callEnvC (lawFd pm cd doc) s₁.heap.objs.size fa).locals ≠ c := fun e => by
    have q2 : h'.get? (callEnvC (lawFd pm cd doc) s₁.heap.objs.size fa).locals = some oL := hLo
    have q3 : h'.get? c = none := hfr
    rw [e, q3] at q2; cases q2
  have f : FS X s₁ s₁.heap.get? (callEnvC (lawFd pm cd doc) s₁.heap.objs.size fa) [] none true (tp cs 0) F₁ { s' with heap := s'.heap.push { cls := .type "list", data := .seq [Value.ref c, .int 0 tk₂].toArray } } := by
    refine ⟨⟨⟨_, s'.toks, by rw [hs']⟩, fun a o _ e => Heap.get?_push_of_some _ (kall a o e), hFx, fun a o e => ?_, hbase⟩, _, fun _ => none, hkd, rfl, rfl, hLs.keeps (fun a o e => Heap.get?_push_of_some _ e), hLnew, hFn _ hLc hLnew, ?_, ?_, ?_, ?_, ?_, (fun n p e => nomatch e), fun _ _ e => nomatch e⟩
    · rcases hF1 a o e with ⟨rfl, rfl⟩ | e
      · exact .inr hc1
      · exact .inl e
    · intro e
      have q2 : s'.heap.get? (callEnvC (lawFd pm cd doc) s₁.heap.objs.size fa).locals = some oL := hps.keep _ _ hLo
      rw [e] at q2
      have h3 : s'.heap.get? s'.heap.objs.size = some oL := q2
      rw [get_size] at h3; cases h3
    · intro n c e; rw [no_cells] at e; cases e
    · intro n c e; rw [no_cells] at e; cases e
    · intro _ n c e; rw [no_cells] at e; cases e
    · rw [no_cells]; exact .nil
  refine wpAny_assign_Name (f.store (X := X) (p := .tape) (v := .ref s'.heap.objs.size) (by kernel_rfl) (show VR X.t F₁ .tape (.ref s'.heap.objs.size) by simp only [VR]; rfl) (fun _ _ e => nomatch e) fun s'' f'' ax => ?_)
  obtain ⟨k', hr⟩ := law_rest (X := X) (A := callerA.deeper (callEnvC (lawFd pm cd doc) s₁.heap.objs.size fa)) (pm := pm) (cd := cd) (doc := doc) (L := s₁.heap.objs.size) (fa := fa) (b2 := []) room_law (cs := cs) ⟨hne, hcl, by omega⟩ rfl
  refine hr s₁.heap.get? s'' F₁ _ _ f'' fun fl s₃ F₃ ok _ => ?_
  obtain ⟨v, rfl, hv, hb⟩ := ok
  simp only [VR] at hv
  subst hv
  refine q s₃ ?_ fun a o e => hb.keep a o (fun h => ?_) e
  · obtain ⟨h₃, tk₃, e⟩ := hb.same
    exact ⟨h₃, tk₃, e⟩
  · subst h; rw [hT1] at e; cases e
theorem claim : PySem.Challenge.rw_nz0319_01.Holds := by
  refine head ?_
  intro w s₀ s₁ mg mb G Y fa o pm cd doc dV kV ho hd hcd hD hmg hg args vals as hpre hlay hrd hwl hlo
  have KX := kIn_of Y
  wrow_args hpre hlay hrd hwl hlo
  rename_i ns _ _ _ _ _ a₁ as₁ a₀ vs as₂ hL _ _ _ hI _ hlen _
  have h1 : dV = .none := by
    rcases hD.pos with h | h
    · exact h.2
    · exact absurd (show dLaw.params.defaults = [] by kernel_rfl) h.1
  have h2 : kV = .none := by
    rcases hD.kw with h | h
    · exact h.2
    · exact absurd rfl h.1
  subst h1 h2
  have T := G.T
  refine law_call KX T.g T.b T.builtins T.nolimit ho hd hcd hL hI (by omega) fun s' hs hk => ?_
  refine GoodW.toG ⟨.inl ⟨.bool true, .bool true, [], rfl, fun cls => ?_, .bool true, ?_, fun _ => ⟨.nil, fun a h => nomatch h⟩⟩, hk, ?_, ?_⟩
  · rfl
  · wrow_post
  · obtain ⟨h, tk, rfl⟩ := hs; rfl
  · obtain ⟨h, tk, rfl⟩ := hs; exact hg
end Mine
theorem PySem.Challenge.cw_nz0319_01_holds : PySem.Challenge.rw_nz0319_01.Holds :=
  Mine.claim
