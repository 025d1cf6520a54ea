import PyProof.Rows.All
import Wide.All
import OpenK.AllK
import Wide.FinOn
import Lean
import PySem.Challenge.RW_sa0508_01
open PySem PySem.W PyProof.Rows PySem.Calls
set_option Elab.async false
set_option maxRecDepth 100000
set_option linter.all false
set_option linter.unusedSimpArgs false
set_option linter.unusedVariables false
set_option linter.unusedSectionVars false
namespace Mine
section
set_option maxHeartbeats 8000000
open_top hd for PySem.Challenge.rw_sa0508_01
end

abbrev Tx := List Nat
def tx (s : Tx) : Str := ⟨s.toArray⟩
inductive N where
  | n_rd
  | n_token
  | n_name
  | n_found
  | n_scopes
  | n_find
  | n_value
  | n_errors
  | n_mark
  | n_place
  | n_kind
  | n_expect
  | n_inner
  | n_shown
  | n_par
  | n_type
  | n_form
  | n_length
  | n_t
  | n_self
  | n_number
  | n_size
  | n_base
  | n_fields
  | n_level
  | n_params
  | n_module
  | n_label
  | n_hidden
  | n_exno
  | n_type_of
  | n_exported
  | n_readonly
  | n_slot
  | n_offset
  | n_isparam
  | n_narrowed
  | n_key
  | n_objs
  | n_imports
  | n_obj
  | n_counter
  | n_known
  | n_boolean
  | n_new
  | n_char
  | n_byte
  | n_integer
  | n_mask
  | n_nil
  | n_none
  | n_made
  | n_going
  | n_skip
  | n_at
  | n_types
  | n_element
  | n_total
  | n_variable
  | n_names
  | n_first
  | n_structured
  | n_rows
  | n_places
  | n_code
  | n_digits
  | n_most
  | n_digit
  | n_source
  | n_words
  | n_ahead
  | n_begun
  | n_word
  | n_numeral
  | n_string
  | n_symbol
  | n_remark
  | n_depth
  | n_pair
  | n_end
  | n_ending
  | n_hexadecimal
  | n_character
  | n_real
  | n_whole
  | n_order
  | n_slots
  | n_stack
  | n_scope
  | n_add
  | n_insert
  | n_importer
  | n_scanner
  | n_procs
  | n_records
  | n_forwards
  | n_nest
  | n_parts
  | n_take
  | n_step
  | n_pool
  | n_cells
  | n_rest
  | n_mixed
  | n_big
  | n_figure
  | n_written
  | n_which
  | n_row
  | n_again
  | n_each
  | n_alone
  | n_deed
  | n_spot
  | n_more
  | n_said
  | n_remarks
  | n_sign
  | n_gap
  | n_sort
  | n_marks
  | n_one
  | n_meanings
  | n_use
  | n_fault
  | n_many
  | n_pars
  | n_agenda
  | n_arrays
  | n_back
  | n_opened
  | n_owner
  | n_closed
  | n_where
  | n_behind
  | n_script
  | n_structure
  | n_fixed
  | n_arrow
  | n_strange
  | n_away
  | n_open
  | n_home
  | n_there
  | n_current
  | n_before
  | n_last
  | n_told
  | n_seen
  deriving DecidableEq
def N.str : N → Str
  | .n_rd => Str.ofString "rd"
  | .n_token => Str.ofString "token"
  | .n_name => Str.ofString "name"
  | .n_found => Str.ofString "found"
  | .n_scopes => Str.ofString "scopes"
  | .n_find => Str.ofString "find"
  | .n_value => Str.ofString "value"
  | .n_errors => Str.ofString "errors"
  | .n_mark => Str.ofString "mark"
  | .n_place => Str.ofString "place"
  | .n_kind => Str.ofString "kind"
  | .n_expect => Str.ofString "expect"
  | .n_inner => Str.ofString "inner"
  | .n_shown => Str.ofString "shown"
  | .n_par => Str.ofString "par"
  | .n_type => Str.ofString "type"
  | .n_form => Str.ofString "form"
  | .n_length => Str.ofString "length"
  | .n_t => Str.ofString "t"
  | .n_self => Str.ofString "self"
  | .n_number => Str.ofString "number"
  | .n_size => Str.ofString "size"
  | .n_base => Str.ofString "base"
  | .n_fields => Str.ofString "fields"
  | .n_level => Str.ofString "level"
  | .n_params => Str.ofString "params"
  | .n_module => Str.ofString "module"
  | .n_label => Str.ofString "label"
  | .n_hidden => Str.ofString "hidden"
  | .n_exno => Str.ofString "exno"
  | .n_type_of => Str.ofString "type_of"
  | .n_exported => Str.ofString "exported"
  | .n_readonly => Str.ofString "readonly"
  | .n_slot => Str.ofString "slot"
  | .n_offset => Str.ofString "offset"
  | .n_isparam => Str.ofString "isparam"
  | .n_narrowed => Str.ofString "narrowed"
  | .n_key => Str.ofString "key"
  | .n_objs => Str.ofString "objs"
  | .n_imports => Str.ofString "imports"
  | .n_obj => Str.ofString "obj"
  | .n_counter => Str.ofString "counter"
  | .n_known => Str.ofString "known"
  | .n_boolean => Str.ofString "boolean"
  | .n_new => Str.ofString "new"
  | .n_char => Str.ofString "char"
  | .n_byte => Str.ofString "byte"
  | .n_integer => Str.ofString "integer"
  | .n_mask => Str.ofString "mask"
  | .n_nil => Str.ofString "nil"
  | .n_none => Str.ofString "none"
  | .n_made => Str.ofString "made"
  | .n_going => Str.ofString "going"
  | .n_skip => Str.ofString "skip"
  | .n_at => Str.ofString "at"
  | .n_types => Str.ofString "types"
  | .n_element => Str.ofString "element"
  | .n_total => Str.ofString "total"
  | .n_variable => Str.ofString "variable"
  | .n_names => Str.ofString "names"
  | .n_first => Str.ofString "first"
  | .n_structured => Str.ofString "structured"
  | .n_rows => Str.ofString "rows"
  | .n_places => Str.ofString "places"
  | .n_code => Str.ofString "code"
  | .n_digits => Str.ofString "digits"
  | .n_most => Str.ofString "most"
  | .n_digit => Str.ofString "digit"
  | .n_source => Str.ofString "source"
  | .n_words => Str.ofString "words"
  | .n_ahead => Str.ofString "ahead"
  | .n_begun => Str.ofString "begun"
  | .n_word => Str.ofString "word"
  | .n_numeral => Str.ofString "numeral"
  | .n_string => Str.ofString "string"
  | .n_symbol => Str.ofString "symbol"
  | .n_remark => Str.ofString "remark"
  | .n_depth => Str.ofString "depth"
  | .n_pair => Str.ofString "pair"
  | .n_end => Str.ofString "end"
  | .n_ending => Str.ofString "ending"
  | .n_hexadecimal => Str.ofString "hexadecimal"
  | .n_character => Str.ofString "character"
  | .n_real => Str.ofString "real"
  | .n_whole => Str.ofString "whole"
  | .n_order => Str.ofString "order"
  | .n_slots => Str.ofString "slots"
  | .n_stack => Str.ofString "stack"
  | .n_scope => Str.ofString "scope"
  | .n_add => Str.ofString "add"
  | .n_insert => Str.ofString "insert"
  | .n_importer => Str.ofString "importer"
  | .n_scanner => Str.ofString "scanner"
  | .n_procs => Str.ofString "procs"
  | .n_records => Str.ofString "records"
  | .n_forwards => Str.ofString "forwards"
  | .n_nest => Str.ofString "nest"
  | .n_parts => Str.ofString "parts"
  | .n_take => Str.ofString "take"
  | .n_step => Str.ofString "step"
  | .n_pool => Str.ofString "pool"
  | .n_cells => Str.ofString "cells"
  | .n_rest => Str.ofString "rest"
  | .n_mixed => Str.ofString "mixed"
  | .n_big => Str.ofString "big"
  | .n_figure => Str.ofString "figure"
  | .n_written => Str.ofString "written"
  | .n_which => Str.ofString "which"
  | .n_row => Str.ofString "row"
  | .n_again => Str.ofString "again"
  | .n_each => Str.ofString "each"
  | .n_alone => Str.ofString "alone"
  | .n_deed => Str.ofString "deed"
  | .n_spot => Str.ofString "spot"
  | .n_more => Str.ofString "more"
  | .n_said => Str.ofString "said"
  | .n_remarks => Str.ofString "remarks"
  | .n_sign => Str.ofString "sign"
  | .n_gap => Str.ofString "gap"
  | .n_sort => Str.ofString "sort"
  | .n_marks => Str.ofString "marks"
  | .n_one => Str.ofString "one"
  | .n_meanings => Str.ofString "meanings"
  | .n_use => Str.ofString "use"
  | .n_fault => Str.ofString "fault"
  | .n_many => Str.ofString "many"
  | .n_pars => Str.ofString "pars"
  | .n_agenda => Str.ofString "agenda"
  | .n_arrays => Str.ofString "arrays"
  | .n_back => Str.ofString "back"
  | .n_opened => Str.ofString "opened"
  | .n_owner => Str.ofString "owner"
  | .n_closed => Str.ofString "closed"
  | .n_where => Str.ofString "where"
  | .n_behind => Str.ofString "behind"
  | .n_script => Str.ofString "script"
  | .n_structure => Str.ofString "structure"
  | .n_fixed => Str.ofString "fixed"
  | .n_arrow => Str.ofString "arrow"
  | .n_strange => Str.ofString "strange"
  | .n_away => Str.ofString "away"
  | .n_open => Str.ofString "open"
  | .n_home => Str.ofString "home"
  | .n_there => Str.ofString "there"
  | .n_current => Str.ofString "current"
  | .n_before => Str.ofString "before"
  | .n_last => Str.ofString "last"
  | .n_told => Str.ofString "told"
  | .n_seen => Str.ofString "seen"
def N.all : List N := [.n_rd,.n_token,.n_name,.n_found,.n_scopes,.n_find,.n_value,.n_errors,.n_mark,.n_place,.n_kind,.n_expect,.n_inner,.n_shown,.n_par,.n_type,.n_form,.n_length,.n_t,.n_self,.n_number,.n_size,.n_base,.n_fields,.n_level,.n_params,.n_module,.n_label,.n_hidden,.n_exno,.n_type_of,.n_exported,.n_readonly,.n_slot,.n_offset,.n_isparam,.n_narrowed,.n_key,.n_objs,.n_imports,.n_obj,.n_counter,.n_known,.n_boolean,.n_new,.n_char,.n_byte,.n_integer,.n_mask,.n_nil,.n_none,.n_made,.n_going,.n_skip,.n_at,.n_types,.n_element,.n_total,.n_variable,.n_names,.n_first,.n_structured,.n_rows,.n_places,.n_code,.n_digits,.n_most,.n_digit,.n_source,.n_words,.n_ahead,.n_begun,.n_word,.n_numeral,.n_string,.n_symbol,.n_remark,.n_depth,.n_pair,.n_end,.n_ending,.n_hexadecimal,.n_character,.n_real,.n_whole,.n_order,.n_slots,.n_stack,.n_scope,.n_add,.n_insert,.n_importer,.n_scanner,.n_procs,.n_records,.n_forwards,.n_nest,.n_parts,.n_take,.n_step,.n_pool,.n_cells,.n_rest,.n_mixed,.n_big,.n_figure,.n_written,.n_which,.n_row,.n_again,.n_each,.n_alone,.n_deed,.n_spot,.n_more,.n_said,.n_remarks,.n_sign,.n_gap,.n_sort,.n_marks,.n_one,.n_meanings,.n_use,.n_fault,.n_many,.n_pars,.n_agenda,.n_arrays,.n_back,.n_opened,.n_owner,.n_closed,.n_where,.n_behind,.n_script,.n_structure,.n_fixed,.n_arrow,.n_strange,.n_away,.n_open,.n_home,.n_there,.n_current,.n_before,.n_last,.n_told,.n_seen]
inductive Fn where
  | f_Interface_find
  | f_ErrorList_mark
  | f_Scopes_find
  | f_Token_init
  | f_is_letter
  | f_is_digit
  | f_Scanner_char
  | f_Scanner_remark
  | f_Scanner_skip
  | f_Scanner_word
  | f_is_hex_digit
  | f_digits_value
  | f_Scanner_whole
  | f_Scanner_numeral
  | f_Scanner_symbol
  | f_Scanner_take
  | f_Reader_step
  | f_Reader_skip
  | f_Reader_mark
  | f_Reader_expect
  | f_Reader_at
  | f_Reader_name
  | f_qualident
  | f_param_words
  | f_is_scalar
  | f_Type_init
  | f_Obj_init
  | f_Interface_init
  | f_Types_new
  | f_Types_init
  | f_plain_names
  | f_type_name
  | f_formal_type
  | f_words_of
  | f_section
  | f_result_of
  | f_parameters
  | f_ErrorList_init
  | f_keywords
  | f_Scanner_init
  | f_Scope_init
  | f_Scopes_init
  | f_Scopes_open
  | f_Scopes_current
  | f_Scopes_add
  | f_Scopes_insert
  | f_std_functions
  | f_std_procedures
  | f_fill
  | f_Reader_init
  | f_law_take
  | f_law_named
  | f_law_loose
  | f_law_of_type
  | f_law_part
  | f_law_formal
  | f_law_row
  | f_law_written
  | f_law_mark
  | f_law_meaning
  | f_law_due
  | f_law
  deriving DecidableEq
def Fn.rank : Fn → Nat
  | .f_Interface_find => 0
  | .f_ErrorList_mark => 1
  | .f_Scopes_find => 2
  | .f_Token_init => 3
  | .f_is_letter => 4
  | .f_is_digit => 5
  | .f_Scanner_char => 6
  | .f_Scanner_remark => 7
  | .f_Scanner_skip => 8
  | .f_Scanner_word => 9
  | .f_is_hex_digit => 10
  | .f_digits_value => 11
  | .f_Scanner_whole => 12
  | .f_Scanner_numeral => 13
  | .f_Scanner_symbol => 14
  | .f_Scanner_take => 15
  | .f_Reader_step => 16
  | .f_Reader_skip => 17
  | .f_Reader_mark => 18
  | .f_Reader_expect => 19
  | .f_Reader_at => 20
  | .f_Reader_name => 21
  | .f_qualident => 22
  | .f_param_words => 23
  | .f_is_scalar => 24
  | .f_Type_init => 25
  | .f_Obj_init => 26
  | .f_Interface_init => 27
  | .f_Types_new => 28
  | .f_Types_init => 29
  | .f_plain_names => 30
  | .f_type_name => 31
  | .f_formal_type => 32
  | .f_words_of => 33
  | .f_section => 34
  | .f_result_of => 35
  | .f_parameters => 36
  | .f_ErrorList_init => 37
  | .f_keywords => 38
  | .f_Scanner_init => 39
  | .f_Scope_init => 40
  | .f_Scopes_init => 41
  | .f_Scopes_open => 42
  | .f_Scopes_current => 43
  | .f_Scopes_add => 44
  | .f_Scopes_insert => 45
  | .f_std_functions => 46
  | .f_std_procedures => 47
  | .f_fill => 48
  | .f_Reader_init => 49
  | .f_law_take => 50
  | .f_law_named => 51
  | .f_law_loose => 52
  | .f_law_of_type => 53
  | .f_law_part => 54
  | .f_law_formal => 55
  | .f_law_row => 56
  | .f_law_written => 57
  | .f_law_mark => 58
  | .f_law_meaning => 59
  | .f_law_due => 60
  | .f_law => 61
def Fn.addr : Fn → Addr
  | .f_Interface_find => 105
  | .f_ErrorList_mark => 216
  | .f_Scopes_find => 483
  | .f_Token_init => 251
  | .f_is_letter => 272
  | .f_is_digit => 279
  | .f_Scanner_char => 315
  | .f_Scanner_remark => 336
  | .f_Scanner_skip => 329
  | .f_Scanner_word => 343
  | .f_is_hex_digit => 286
  | .f_digits_value => 293
  | .f_Scanner_whole => 357
  | .f_Scanner_numeral => 350
  | .f_Scanner_symbol => 399
  | .f_Scanner_take => 322
  | .f_Reader_step => 533
  | .f_Reader_skip => 547
  | .f_Reader_mark => 561
  | .f_Reader_expect => 554
  | .f_Reader_at => 540
  | .f_Reader_name => 568
  | .f_qualident => 28
  | .f_param_words => 35
  | .f_is_scalar => 42
  | .f_Type_init => 56
  | .f_Obj_init => 77
  | .f_Interface_init => 98
  | .f_Types_new => 134
  | .f_Types_init => 126
  | .f_plain_names => 155
  | .f_type_name => 162
  | .f_formal_type => 169
  | .f_words_of => 176
  | .f_section => 181
  | .f_result_of => 188
  | .f_parameters => 195
  | .f_ErrorList_init => 209
  | .f_keywords => 265
  | .f_Scanner_init => 307
  | .f_Scope_init => 420
  | .f_Scopes_init => 441
  | .f_Scopes_open => 448
  | .f_Scopes_current => 462
  | .f_Scopes_add => 469
  | .f_Scopes_insert => 476
  | .f_std_functions => 497
  | .f_std_procedures => 504
  | .f_fill => 511
  | .f_Reader_init => 526
  | .f_law_take => 617
  | .f_law_named => 624
  | .f_law_loose => 631
  | .f_law_of_type => 638
  | .f_law_part => 645
  | .f_law_formal => 652
  | .f_law_row => 659
  | .f_law_written => 666
  | .f_law_mark => 671
  | .f_law_meaning => 678
  | .f_law_due => 683
  | .f_law => 690
def Fn.gname : Fn → Str
  | .f_Interface_find => Str.ofString "find"
  | .f_ErrorList_mark => Str.ofString "mark"
  | .f_Scopes_find => Str.ofString "find"
  | .f_Token_init => Str.ofString "__init__"
  | .f_is_letter => Str.ofString "is_letter"
  | .f_is_digit => Str.ofString "is_digit"
  | .f_Scanner_char => Str.ofString "char"
  | .f_Scanner_remark => Str.ofString "remark"
  | .f_Scanner_skip => Str.ofString "skip"
  | .f_Scanner_word => Str.ofString "word"
  | .f_is_hex_digit => Str.ofString "is_hex_digit"
  | .f_digits_value => Str.ofString "digits_value"
  | .f_Scanner_whole => Str.ofString "whole"
  | .f_Scanner_numeral => Str.ofString "numeral"
  | .f_Scanner_symbol => Str.ofString "symbol"
  | .f_Scanner_take => Str.ofString "take"
  | .f_Reader_step => Str.ofString "step"
  | .f_Reader_skip => Str.ofString "skip"
  | .f_Reader_mark => Str.ofString "mark"
  | .f_Reader_expect => Str.ofString "expect"
  | .f_Reader_at => Str.ofString "at"
  | .f_Reader_name => Str.ofString "name"
  | .f_qualident => Str.ofString "qualident"
  | .f_param_words => Str.ofString "param_words"
  | .f_is_scalar => Str.ofString "is_scalar"
  | .f_Type_init => Str.ofString "__init__"
  | .f_Obj_init => Str.ofString "__init__"
  | .f_Interface_init => Str.ofString "__init__"
  | .f_Types_new => Str.ofString "new"
  | .f_Types_init => Str.ofString "__init__"
  | .f_plain_names => Str.ofString "plain_names"
  | .f_type_name => Str.ofString "type_name"
  | .f_formal_type => Str.ofString "formal_type"
  | .f_words_of => Str.ofString "words_of"
  | .f_section => Str.ofString "section"
  | .f_result_of => Str.ofString "result_of"
  | .f_parameters => Str.ofString "parameters"
  | .f_ErrorList_init => Str.ofString "__init__"
  | .f_keywords => Str.ofString "keywords"
  | .f_Scanner_init => Str.ofString "__init__"
  | .f_Scope_init => Str.ofString "__init__"
  | .f_Scopes_init => Str.ofString "__init__"
  | .f_Scopes_open => Str.ofString "open"
  | .f_Scopes_current => Str.ofString "current"
  | .f_Scopes_add => Str.ofString "add"
  | .f_Scopes_insert => Str.ofString "insert"
  | .f_std_functions => Str.ofString "std_functions"
  | .f_std_procedures => Str.ofString "std_procedures"
  | .f_fill => Str.ofString "fill"
  | .f_Reader_init => Str.ofString "__init__"
  | .f_law_take => Str.ofString "_law_take"
  | .f_law_named => Str.ofString "_law_named"
  | .f_law_loose => Str.ofString "_law_loose"
  | .f_law_of_type => Str.ofString "_law_of_type"
  | .f_law_part => Str.ofString "_law_part"
  | .f_law_formal => Str.ofString "_law_formal"
  | .f_law_row => Str.ofString "_law_row"
  | .f_law_written => Str.ofString "_law_written"
  | .f_law_mark => Str.ofString "_law_mark"
  | .f_law_meaning => Str.ofString "_law_meaning"
  | .f_law_due => Str.ofString "_law_due"
  | .f_law => Str.ofString "law"
def Fn.isGlob : Fn → Bool
  | .f_is_letter => true
  | .f_is_digit => true
  | .f_is_hex_digit => true
  | .f_digits_value => true
  | .f_qualident => true
  | .f_param_words => true
  | .f_is_scalar => true
  | .f_plain_names => true
  | .f_type_name => true
  | .f_formal_type => true
  | .f_words_of => true
  | .f_section => true
  | .f_result_of => true
  | .f_parameters => true
  | .f_keywords => true
  | .f_std_functions => true
  | .f_std_procedures => true
  | .f_fill => true
  | .f_law_take => true
  | .f_law_named => true
  | .f_law_loose => true
  | .f_law_of_type => true
  | .f_law_part => true
  | .f_law_formal => true
  | .f_law_row => true
  | .f_law_written => true
  | .f_law_mark => true
  | .f_law_meaning => true
  | .f_law_due => true
  | .f_law => true
  | _ => false
inductive Cls where
  | c_Type
  | c_Obj
  | c_Interface
  | c_Types
  | c_ErrorList
  | c_Token
  | c_Scanner
  | c_Scope
  | c_Scopes
  | c_Reader
  deriving DecidableEq
def Cls.addr : Cls → Addr
  | .c_Type => 59
  | .c_Obj => 80
  | .c_Interface => 108
  | .c_Types => 144
  | .c_ErrorList => 233
  | .c_Token => 254
  | .c_Scanner => 402
  | .c_Scope => 423
  | .c_Scopes => 486
  | .c_Reader => 606
def Cls.gname : Cls → Str
  | .c_Type => Str.ofString "Type"
  | .c_Obj => Str.ofString "Obj"
  | .c_Interface => Str.ofString "Interface"
  | .c_Types => Str.ofString "Types"
  | .c_ErrorList => Str.ofString "ErrorList"
  | .c_Token => Str.ofString "Token"
  | .c_Scanner => Str.ofString "Scanner"
  | .c_Scope => Str.ofString "Scope"
  | .c_Scopes => Str.ofString "Scopes"
  | .c_Reader => Str.ofString "Reader"
def Cls.attrs : Cls → List N
  | .c_Type => [.n_number,.n_form,.n_size,.n_base,.n_length,.n_fields,.n_level,.n_params,.n_module,.n_label,.n_hidden,.n_exno]
  | .c_Obj => [.n_name,.n_kind,.n_type,.n_place,.n_exported,.n_readonly,.n_level,.n_module,.n_value,.n_slot,.n_offset,.n_number,.n_isparam,.n_narrowed]
  | .c_Interface => [.n_name,.n_key,.n_objs,.n_imports]
  | .c_Types => [.n_counter,.n_known,.n_boolean,.n_char,.n_byte,.n_integer,.n_mask,.n_nil,.n_none]
  | .c_ErrorList => [.n_rows,.n_places]
  | .c_Token => [.n_kind,.n_value,.n_place]
  | .c_Scanner => [.n_source,.n_errors,.n_place,.n_words]
  | .c_Scope => [.n_level,.n_label,.n_names,.n_order,.n_slots]
  | .c_Scopes => [.n_types,.n_module,.n_stack,.n_level]
  | .c_Reader => [.n_scanner,.n_types,.n_errors,.n_importer,.n_scopes,.n_module,.n_procs,.n_records,.n_forwards,.n_level,.n_nest,.n_parts,.n_token]
def Cls.init : Cls → Fn
  | .c_Type => .f_Type_init
  | .c_Obj => .f_Obj_init
  | .c_Interface => .f_Interface_init
  | .c_Types => .f_Types_init
  | .c_ErrorList => .f_ErrorList_init
  | .c_Token => .f_Token_init
  | .c_Scanner => .f_Scanner_init
  | .c_Scope => .f_Scope_init
  | .c_Scopes => .f_Scopes_init
  | .c_Reader => .f_Reader_init
def Cls.meth : Cls → N → Option Fn
  | .c_Interface,.n_find => some .f_Interface_find
  | .c_Types,.n_new => some .f_Types_new
  | .c_ErrorList,.n_mark => some .f_ErrorList_mark
  | .c_Scanner,.n_char => some .f_Scanner_char
  | .c_Scanner,.n_take => some .f_Scanner_take
  | .c_Scanner,.n_skip => some .f_Scanner_skip
  | .c_Scanner,.n_remark => some .f_Scanner_remark
  | .c_Scanner,.n_word => some .f_Scanner_word
  | .c_Scanner,.n_numeral => some .f_Scanner_numeral
  | .c_Scanner,.n_whole => some .f_Scanner_whole
  | .c_Scanner,.n_symbol => some .f_Scanner_symbol
  | .c_Scopes,.n_open => some .f_Scopes_open
  | .c_Scopes,.n_current => some .f_Scopes_current
  | .c_Scopes,.n_add => some .f_Scopes_add
  | .c_Scopes,.n_insert => some .f_Scopes_insert
  | .c_Scopes,.n_find => some .f_Scopes_find
  | .c_Reader,.n_step => some .f_Reader_step
  | .c_Reader,.n_at => some .f_Reader_at
  | .c_Reader,.n_skip => some .f_Reader_skip
  | .c_Reader,.n_expect => some .f_Reader_expect
  | .c_Reader,.n_mark => some .f_Reader_mark
  | .c_Reader,.n_name => some .f_Reader_name
  | _,_ => none
inductive V where
  | none
  | bool (b : Bool)
  | int (i : Int)
  | str (s : Tx)
  | ref (a : Addr)
  | tup (xs : List V)
inductive O where
  | inst (c : Cls) (m : List (N × V))
  | list (xs : List V)
  | sd (m : List (Tx × V))
  | idt (m : List (Int × V))
  | td (n : Nat)
  | ext (ns : List Int)
abbrev AH := Addr → Option O
abbrev Rho := N → Option V
def put {α β : Type} [DecidableEq α] (f : α → Option β) (a : α) (b : β) : α → Option β := fun x => if x = a then some b else f x
theorem put_apply {α β : Type} [DecidableEq α] (f : α → Option β) (a : α) (b : β) (x : α) : put f a b x = if x = a then some b else f x := rfl
def lk {α β : Type} [DecidableEq α] : List (α × β) → α → Option β
  | [],_ => none
  | (y,v) :: r,x => if y = x then some v else lk r x
def sset {α β : Type} [DecidableEq α] : List (α × β) → α → β → List (α × β)
  | [],x,v => [(x,v)]
  | (y,u) :: r,x,v => if y = x then (y,v) :: r else (y,u) :: sset r x v
inductive BOp where
  | add | sub | mul | fdiv | mod
inductive COp where
  | eq | ne | lt | le | gt | ge | isin | notin | is_
inductive Bi where
  | b_abs | b_int | b_chr | b_str | b_len | b_ord | b_max | b_list
inductive DK where
  | sd | idt | td
def DK.o : DK → O
  | .sd => .sd []
  | .idt => .idt []
  | .td => .td 0
inductive E where
  | loc (x : N)
  | gint (n : Str) (i : Int)
  | int (i : Int)
  | str (s : Tx)
  | bool (b : Bool)
  | none
  | pow (a b : Nat)
  | neg (i : Nat)
  | attr (e : E) (n : N)
  | bin (o : BOp) (a b : E)
  | not (a : E)
  | and (es : List E)
  | or (es : List E)
  | cmp (o : COp) (a b : E)
  | ite (t a b : E)
  | list (es : List E)
  | tup (es : List E)
  | dict (ks : List Tx) (vs : List E)
  | dict0 (o : DK)
  | idx (a i : E)
  | slice (a : E) (lo hi : Option E)
  | call (f : Fn) (args : List E)
  | meth (c : Cls) (o : E) (m : N) (args : List E)
  | new (c : Cls) (args : List E)
  | bi (b : Bi) (args : List E)
  | append (o x : E)
  | pop (o : E)
  | pop0 (o : E)
  | dget (o k d : E)
  | sfind (o x : E)
  | compA (src : E) (x n : N)
  | compI (src : E) (x : N) (i : Nat)
inductive S where
  | asg (x : N) (e : E)
  | unpk (xs : List N) (e : E)
  | sattr (o : E) (n : N) (e : E)
  | sidx (o i e : E)
  | aug (x : N) (e : E)
  | augattr (o : E) (n : N) (e : E)
  | ifs (t : E) (a b : List S)
  | whl (t : E) (body : List S)
  | forS (x : N) (e : E) (body : List S)
  | forT (xs : List N) (e : E) (body : List S)
  | forR (x : N) (e : E) (body : List S)
  | forV (x : N) (e : E) (body : List S)
  | ret (e : E)
  | retn
  | cont
  | expr (e : E)
inductive Fl where
  | next
  | cont
  | ret (v : V)
abbrev Post := V → AH → Prop
abbrev Sp := Fn → List V → AH → Post → Prop
def asc (s : Tx) : Bool := s.all (· < 128)
mutual
def V.dat : V → Bool
  | .str s => asc s
  | .ref _ => false
  | .tup xs => datL xs
  | _ => true
def datL : List V → Bool
  | [] => true
  | x :: r => x.dat && datL r
end
mutual
def mix : V → V → Bool
  | .bool _,.int _ => false
  | .int _,.bool _ => false
  | .tup xs,.tup ys => mixL xs ys
  | _,_ => true
def mixL : List V → List V → Bool
  | x :: r,y :: q => mix x y && mixL r q
  | _,_ => true
end
mutual
def V.depth : V → Nat
  | .tup xs => depthL xs + 1
  | _ => 0
def depthL : List V → Nat
  | [] => 0
  | x :: r => max x.depth (depthL r)
end
def comparable (xs ys : List V) : Prop := datL xs = true ∧ datL ys = true ∧ mixL xs ys = true ∧ depthL xs ≤ 50 ∧ depthL ys ≤ 50
def listM {α β : Type} (f : α → Option β) : List α → Option (List β)
  | [] => some []
  | x :: r => match f x with
    | some y => (match listM f r with
      | some ys => some (y :: ys)
      | none => none)
    | none => none
def strOf : V → Option Tx
  | .str s => some s
  | _ => none
def intOf : V → Option Int
  | .int i => some i
  | _ => none
def eqP (H : AH) (x y : V) (K : Prop → Prop) : Prop := match x,y with
  | .int a,.int b => K (a = b)
  | .str a,.str b => K (a = b)
  | .bool a,.bool b => K (a = b)
  | .tup xs,.tup ys => comparable xs ys ∧ K (xs = ys)
  | .ref a,.ref b => (match H a,H b with
    | some (.list xs),some (.list ys) => comparable xs ys ∧ K (xs = ys)
    | _,_ => False)
  | _,_ => False
def memP (H : AH) (x y : V) (K : Prop → Prop) : Prop := match y with
  | .ref a => (match H a,x with
    | some (.list xs),.str s => ∃ l,listM strOf xs = some l ∧ K (s ∈ l)
    | some (.list xs),.int i => ∃ l,listM intOf xs = some l ∧ K (i ∈ l)
    | some (.sd m),.str s => K ((lk m s).isSome = true)
    | some (.idt m),.int i => K ((lk m i).isSome = true)
    | _,_ => False)
  | .tup xs => (match x with
    | .str s => ∃ l,listM strOf xs = some l ∧ K (s ∈ l)
    | _ => False)
  | .str t => (match x with
    | .str [c] => K (c ∈ t)
    | _ => False)
  | _ => False
def cmpP (o : COp) (x y : V) (H : AH) (K : Prop → Prop) : Prop := match o with
  | .eq => eqP H x y K
  | .ne => eqP H x y fun P => K (¬ P)
  | .lt => (match x,y with | .int a,.int b => K (a < b) | _,_ => False)
  | .le => (match x,y with
    | .int a,.int b => K (a ≤ b)
    | .str a,.str b => K (¬ b < a)
    | _,_ => False)
  | .gt => (match x,y with | .int a,.int b => K (b < a) | _,_ => False)
  | .ge => (match x,y with | .int a,.int b => K (b ≤ a) | _,_ => False)
  | .isin => memP H x y K
  | .notin => memP H x y fun P => K (¬ P)
  | .is_ => (match y with
    | .none => K (x = .none)
    | _ => False)
def small (i : Int) : Prop := -1000000000000 ≤ i ∧ i ≤ 1000000000000
def binV (o : BOp) (x y : V) (H : AH) (Q : Post) : Prop := match o,x,y with
  | .add,.int a,.int b => Q (.int (a + b)) H
  | .add,.str a,.str b => a.length + b.length ≤ 10000000 ∧ Q (.str (a ++ b)) H
  | .add,.tup xs,.tup ys => xs.length + ys.length ≤ 1000000 ∧ Q (.tup (xs ++ ys)) H
  | .add,.ref a,.ref b => (match H a,H b with
    | some (.list xs),some (.list ys) => xs.length + ys.length ≤ 1000000 ∧ ∀ c,H c = none → Q (.ref c) (put H c (.list (xs ++ ys)))
    | _,_ => False)
  | .sub,.int a,.int b => Q (.int (a - b)) H
  | .mul,.int a,.int b => small a ∧ small b ∧ Q (.int (a * b)) H
  | .mul,.ref a,.int n => (match H a with
    | some (.list [x]) => 0 ≤ n ∧ n ≤ 1000 ∧ ∀ c,H c = none → Q (.ref c) (put H c (.list (List.replicate n.toNat x)))
    | _ => False)
  | .fdiv,.int a,.int b => 0 < b ∧ b ≤ 1000000 ∧ Q (.int (a / b)) H
  | .mod,.int a,.int b => 0 < b ∧ Q (.int (a % b)) H
  | _,_,_ => False
def itemAt (xs : List V) (i : Int) : Option V := if 0 ≤ i then (if i ≤ 10000000 then xs[i.toNat]? else none) else if i = -1 then xs.getLast? else none
def idxV (x y : V) (H : AH) (Q : Post) : Prop := match x,y with
  | .tup xs,.int i => ∃ v,itemAt xs i = some v ∧ Q v H
  | .ref a,.int i => (match H a with
    | some (.list xs) => ∃ v,itemAt xs i = some v ∧ Q v H
    | _ => False)
  | .ref a,.str s => (match H a with
    | some (.sd m) => ∃ v,lk m s = some v ∧ Q v H
    | _ => False)
  | _,_ => False
def cut {α : Type} (lo hi : Option Int) (xs : List α) : List α :=
  let l := match lo with | some i => i.toNat | none => 0
  let h := match hi with | some i => i.toNat | none => xs.length
  (xs.take h).drop l
def okB (lo : Option Int) : Prop := match lo with | some i => 0 ≤ i ∧ i ≤ 10000000000 | none => True
def sliceV (x : V) (lo hi : Option Int) (H : AH) (Q : Post) : Prop := okB lo ∧ okB hi ∧ match x with
  | .str s => s.length ≤ 10000000 ∧ Q (.str (cut lo hi s)) H
  | .ref a => (match H a with
    | some (.list xs) => xs.length ≤ 1000000 ∧ ∀ c,H c = none → Q (.ref c) (put H c (.list (cut lo hi xs)))
    | some (.ext ns) => ns.length ≤ 1000000 ∧ ∀ c,H c = none → Q (.ref c) (put H c (.list ((cut lo hi ns).map V.int)))
    | _ => False)
  | _ => False
def rdAttr (v : V) (n : N) (H : AH) (Q : Post) : Prop := match v with
  | .ref a => (match H a with
    | some (.inst c m) => n ∈ c.attrs ∧ ∃ x,lk m n = some x ∧ Q x H
    | _ => False)
  | _ => False
def digit (n : Nat) : Nat := 48 + n % 10
def biV (b : Bi) (vs : List V) (H : AH) (Q : Post) : Prop := match b,vs with
  | .b_abs,[.int i] => Q (.int (if i < 0 then -i else i)) H
  | .b_int,[.int i] => Q (.int i) H
  | .b_chr,[.int i] => 0 ≤ i ∧ i ≤ 127 ∧ Q (.str [i.toNat]) H
  | .b_str,[.int i] => 0 ≤ i ∧ i ≤ 9 ∧ Q (.str [48 + i.toNat]) H
  | .b_len,[.str s] => s.length ≤ 10000000 ∧ Q (.int s.length) H
  | .b_len,[.ref a] => (match H a with
    | some (.list xs) => xs.length ≤ 10000000 ∧ Q (.int xs.length) H
    | _ => False)
  | .b_ord,[.str s] => (match s with | [c] => Q (.int c) H | _ => False)
  | .b_max,[.int a,.int b] => Q (.int (if b > a then b else a)) H
  | .b_list,[.ref a] => (match H a with
    | some (.list xs) => xs.length ≤ 1000000 ∧ ∀ c,H c = none → Q (.ref c) (put H c (.list xs))
    | _ => False)
  | _,_ => False
def appendV (o x : V) (H : AH) (Q : Post) : Prop := match o with
  | .ref a => (match H a with
    | some (.list xs) => xs.length < 1000000 ∧ Q .none (put H a (.list (xs ++ [x])))
    | _ => False)
  | _ => False
def popV (o : V) (H : AH) (Q : Post) : Prop := match o with
  | .ref a => (match H a with
    | some (.list xs) => xs.length ≤ 1000000 ∧ ∃ v,xs.getLast? = some v ∧ Q v (put H a (.list xs.dropLast))
    | _ => False)
  | _ => False
def pop0V (o : V) (H : AH) (Q : Post) : Prop := match o with
  | .ref a => (match H a with
    | some (.list (v :: xs)) => xs.length ≤ 1000000 ∧ Q v (put H a (.list xs))
    | _ => False)
  | _ => False
def dgetV (o k d : V) (H : AH) (Q : Post) : Prop := match o,k with
  | .ref a,.str s => (match H a with
    | some (.sd m) => Q ((lk m s).getD d) H
    | _ => False)
  | _,_ => False
def sfindV (x : V) (H : AH) (Q : Post) : Prop := match x with
  | .str [55] => Q (.int 7) H
  | _ => False
def attrOf (H : AH) (n : N) (v : V) : Option V := match v with
  | .ref b => (match H b with | some (.inst c m) => if n ∈ c.attrs then lk m n else none | _ => none)
  | _ => none
def tupItem (i : Nat) (v : V) : Option V := match v with
  | .tup zs => zs[i]?
  | _ => none
def compV (f : V → Option V) (v : V) (H : AH) (Q : Post) : Prop := match v with
  | .ref a => (match H a with
    | some (.list xs) => xs.length ≤ 1000000 ∧ ∃ ys,listM f xs = some ys ∧ ∀ c,H c = none → Q (.ref c) (put H c (.list ys))
    | _ => False)
  | _ => False
def setAttrV (o : V) (n : N) (x : V) (H : AH) (Q : AH → Prop) : Prop := match o with
  | .ref a => (match H a with
    | some (.inst c m) => n ∈ c.attrs ∧ m.length ≤ 100 ∧ Q (put H a (.inst c (sset m n x)))
    | _ => False)
  | _ => False
def setItemV (o k x : V) (H : AH) (Q : AH → Prop) : Prop := match o,k with
  | .ref a,.int i => (match H a with
    | some (.list xs) => 0 ≤ i ∧ i ≤ 1000000 ∧ i.toNat < xs.length ∧ Q (put H a (.list (xs.set i.toNat x)))
    | some (.idt m) => m.length ≤ 1000000 ∧ Q (put H a (.idt (sset m i x)))
    | _ => False)
  | .ref a,.str s => (match H a with
    | some (.sd m) => m.length ≤ 1000000 ∧ Q (put H a (.sd (sset m s x)))
    | _ => False)
  | .ref a,.tup ks => (match H a with
    | some (.td n) => (∃ p q,ks = [.str p,.str q]) ∧ n ≤ 1000000 ∧ Q (put H a (.td (n + 1)))
    | _ => False)
  | _,_ => False
def augV (x y : V) (H : AH) (Q : Post) : Prop := match x,y with
  | .int a,.int b => Q (.int (a + b)) H
  | .str a,.str b => a.length + b.length ≤ 10000000 ∧ Q (.str (a ++ b)) H
  | .ref a,.ref b => (match H a,H b with
    | some (.list xs),some (.list ys) => a ≠ b ∧ xs.length + ys.length ≤ 1000000 ∧ Q (.ref a) (put H a (.list (xs ++ ys)))
    | _,_ => False)
  | _,_ => False
def itemsOfV (v : V) (H : AH) : Option (List V) := match v with
  | .ref a => (match H a with
    | some (.list xs) => some xs
    | _ => none)
  | .tup xs => some xs
  | .str s => some (s.map fun c => .str [c])
  | _ => none
def putAll : Rho → List N → List V → Rho
  | ρ,x :: xs,v :: vs => putAll (put ρ x v) xs vs
  | ρ,_,_ => ρ
def seqOf (v : V) (H : AH) : Option (List V) := match v with
  | .ref a => (match H a with
    | some (.list xs) => some xs
    | _ => none)
  | .tup xs => some xs
  | _ => none
mutual
def wpE (sp : Sp) (ρ : Rho) : E → AH → Post → Prop
  | .loc x,H,Q => ∃ v,ρ x = some v ∧ Q v H
  | .gint _ i,H,Q => Q (.int i) H
  | .int i,H,Q => Q (.int i) H
  | .str s,H,Q => Q (.str s) H
  | .bool b,H,Q => Q (.bool b) H
  | .none,H,Q => Q .none H
  | .pow a b,H,Q => Q (.int ((a : Int) ^ b)) H
  | .neg i,H,Q => Q (.int (-(i : Int))) H
  | .attr e n,H,Q => wpE sp ρ e H fun v H1 => rdAttr v n H1 Q
  | .bin o a b,H,Q => wpE sp ρ a H fun x H1 => wpE sp ρ b H1 fun y H2 => binV o x y H2 Q
  | .not a,H,Q => wpE sp ρ a H fun v H1 => ∃ b,v = .bool b ∧ Q (.bool !b) H1
  | .and es,H,Q => wpAnd sp ρ es H Q
  | .or es,H,Q => wpOr sp ρ es H Q
  | .cmp o a b,H,Q => wpE sp ρ a H fun x H1 => wpE sp ρ b H1 fun y H2 => cmpP o x y H2 fun P => ∀ r : Bool,(r = true ↔ P) → Q (.bool r) H2
  | .ite t a b,H,Q => wpT sp ρ t H (fun H1 => wpE sp ρ a H1 Q) (fun H1 => wpE sp ρ b H1 Q)
  | .list es,H,Q => wpEs sp ρ es H fun vs H1 => ∀ c,H1 c = none → Q (.ref c) (put H1 c (.list vs))
  | .tup es,H,Q => wpEs sp ρ es H fun vs H1 => Q (.tup vs) H1
  | .dict ks es,H,Q => ∀ c,H c = none → wpDs sp ρ c es ks (put H c (.sd [])) fun H1 => Q (.ref c) H1
  | .dict0 k,H,Q => ∀ c,H c = none → Q (.ref c) (put H c k.o)
  | .idx a i,H,Q => wpE sp ρ a H fun x H1 => wpE sp ρ i H1 fun y H2 => idxV x y H2 Q
  | .slice a lo hi,H,Q => wpE sp ρ a H fun x H1 => wpO sp ρ lo H1 fun l H2 => wpO sp ρ hi H2 fun h H3 => sliceV x l h H3 Q
  | .call f es,H,Q => wpEs sp ρ es H fun vs H1 => sp f vs H1 Q
  | .meth c o n es,H,Q => wpE sp ρ o H fun v H1 => ∃ a m f,v = .ref a ∧ H1 a = some (.inst c m) ∧ lk m n = none ∧ Cls.meth c n = some f ∧ wpEs sp ρ es H1 fun vs H2 => sp f (.ref a :: vs) H2 Q
  | .new c es,H,Q => wpEs sp ρ es H fun vs H1 => ∀ a,H1 a = none → sp c.init (.ref a :: vs) (put H1 a (.inst c [])) fun v H2 => v = .none ∧ Q (.ref a) H2
  | .bi b es,H,Q => wpEs sp ρ es H fun vs H1 => biV b vs H1 Q
  | .append o x,H,Q => wpE sp ρ o H fun v H1 => (∃ a xs,v = .ref a ∧ H1 a = some (.list xs)) ∧ wpE sp ρ x H1 fun y H2 => appendV v y H2 Q
  | .pop o,H,Q => wpE sp ρ o H fun v H1 => popV v H1 Q
  | .pop0 o,H,Q => wpE sp ρ o H fun v H1 => pop0V v H1 Q
  | .dget o k d,H,Q => wpE sp ρ o H fun v H1 => (∃ a m,v = .ref a ∧ H1 a = some (.sd m)) ∧ wpE sp ρ k H1 fun x H2 => wpE sp ρ d H2 fun y H3 => dgetV v x y H3 Q
  | .sfind _ x,H,Q => wpE sp ρ x H fun y H2 => sfindV y H2 Q
  | .compA e _ n,H,Q => wpE sp ρ e H fun v H1 => compV (attrOf H1 n) v H1 Q
  | .compI e _ i,H,Q => wpE sp ρ e H fun v H1 => compV (tupItem i) v H1 Q
def wpEs (sp : Sp) (ρ : Rho) : List E → AH → (List V → AH → Prop) → Prop
  | [],H,Q => Q [] H
  | e :: es,H,Q => wpE sp ρ e H fun v H1 => wpEs sp ρ es H1 fun vs H2 => Q (v :: vs) H2
def wpDs (sp : Sp) (ρ : Rho) (c : Addr) : List E → List Tx → AH → (AH → Prop) → Prop
  | [],_,H,Q => Q H
  | e :: es,ks,H,Q => wpE sp ρ e H fun v H1 => ∃ k ks' m,ks = k :: ks' ∧ H1 c = some (.sd m) ∧ m.length ≤ 1000000 ∧ wpDs sp ρ c es ks' (put H1 c (.sd (sset m k v))) Q
def wpO (sp : Sp) (ρ : Rho) : Option E → AH → (Option Int → AH → Prop) → Prop
  | none,H,Q => Q none H
  | some e,H,Q => wpE sp ρ e H fun v H1 => ∃ i,v = .int i ∧ Q (some i) H1
def wpAnd (sp : Sp) (ρ : Rho) : List E → AH → Post → Prop
  | [],_,_ => False
  | e :: r,H,Q => wpE sp ρ e H fun v H1 => ∃ b,v = .bool b ∧ (r.isEmpty = true → Q (.bool b) H1) ∧ (r.isEmpty = false → (b = false → Q (.bool false) H1) ∧ (b = true → wpAnd sp ρ r H1 Q))
def wpOr (sp : Sp) (ρ : Rho) : List E → AH → Post → Prop
  | [],_,_ => False
  | e :: r,H,Q => wpE sp ρ e H fun v H1 => ∃ b,v = .bool b ∧ (r.isEmpty = true → Q (.bool b) H1) ∧ (r.isEmpty = false → (b = true → Q (.bool true) H1) ∧ (b = false → wpOr sp ρ r H1 Q))
def wpT (sp : Sp) (ρ : Rho) : E → AH → (AH → Prop) → (AH → Prop) → Prop
  | .not a,H,T,F => wpT sp ρ a H F T
  | .and es,H,T,F => wpAllT sp ρ es H T F
  | .or es,H,T,F => wpAnyT sp ρ es H T F
  | .cmp o a b,H,T,F => wpE sp ρ a H fun x H1 => wpE sp ρ b H1 fun y H2 => cmpP o x y H2 fun P => (P → T H2) ∧ (¬ P → F H2)
  | .loc x,H,T,F => ∃ b,ρ x = some (.bool b) ∧ (b = true → T H) ∧ (b = false → F H)
  | .bool b,H,T,F => (b = true → T H) ∧ (b = false → F H)
  | .call f es,H,T,F => wpEs sp ρ es H fun vs H1 => sp f vs H1 fun v H1 => ∃ b,v = .bool b ∧ (b = true → T H1) ∧ (b = false → F H1)
  | .meth c o n es,H,T,F => wpE sp ρ o H fun v H1 => ∃ a m f,v = .ref a ∧ H1 a = some (.inst c m) ∧ lk m n = none ∧ Cls.meth c n = some f ∧ wpEs sp ρ es H1 fun vs H2 => sp f (.ref a :: vs) H2
      fun v H1 => ∃ b,v = .bool b ∧ (b = true → T H1) ∧ (b = false → F H1)
  | _,_,_,_ => False
def wpAllT (sp : Sp) (ρ : Rho) : List E → AH → (AH → Prop) → (AH → Prop) → Prop
  | [],H,T,_ => T H
  | e :: r,H,T,F => wpT sp ρ e H (fun H1 => wpAllT sp ρ r H1 T F) F
def wpAnyT (sp : Sp) (ρ : Rho) : List E → AH → (AH → Prop) → (AH → Prop) → Prop
  | [],H,_,F => F H
  | e :: r,H,T,F => wpT sp ρ e H T (fun H1 => wpAnyT sp ρ r H1 T F)
end
abbrev SPost := Fl → Rho → AH → Prop
def forL (src : AH → Prop) (set : V → Rho → Option Rho) (B : Rho → AH → SPost → Prop) : List V → Rho → AH → SPost → Prop
  | [],ρ,H,Q => src H ∧ Q .next ρ H
  | v :: vs,ρ,H,Q => src H ∧ ∃ ρ1,set v ρ = some ρ1 ∧ B ρ1 H fun fl ρ2 H2 => match fl with
    | .ret w => Q (.ret w) ρ2 H2
    | _ => forL src set B vs ρ2 H2 Q
def turnW (t : Rho → AH → (AH → Prop) → (AH → Prop) → Prop) (B : Rho → AH → SPost → Prop) (Q : SPost) (P : Rho → AH → Prop) (ρ : Rho) (H : AH) : Prop :=
  t ρ H (fun H1 => B ρ H1 fun fl ρ2 H2 => match fl with
    | .ret w => Q (.ret w) ρ2 H2
    | _ => P ρ2 H2) (fun H1 => Q .next ρ H1)
def whileP (t : Rho → AH → (AH → Prop) → (AH → Prop) → Prop) (B : Rho → AH → SPost → Prop) (ρ : Rho) (H : AH) (Q : SPost) : Prop :=
  ∀ P : Rho → AH → Prop,(∀ ρ H,turnW t B Q P ρ H → P ρ H) → P ρ H
def setT (xs : List N) (v : V) (ρ : Rho) : Option Rho := match v with
  | .tup ys => if ys.length = xs.length then some (putAll ρ xs ys) else none
  | _ => none
mutual
def wpS (sp : Sp) : S → Rho → AH → SPost → Prop
  | .asg x e,ρ,H,Q => wpE sp ρ e H fun v H1 => Q .next (put ρ x v) H1
  | .unpk xs e,ρ,H,Q => wpE sp ρ e H fun v H1 => ∃ ys,seqOf v H1 = some ys ∧ ys.length = xs.length ∧ Q .next (putAll ρ xs ys) H1
  | .sattr o n e,ρ,H,Q => wpE sp ρ e H fun x H1 => wpE sp ρ o H1 fun v H2 => setAttrV v n x H2 fun H3 => Q .next ρ H3
  | .sidx o i e,ρ,H,Q => wpE sp ρ e H fun x H1 => wpE sp ρ o H1 fun v H2 => wpE sp ρ i H2 fun k H3 => setItemV v k x H3 fun H4 => Q .next ρ H4
  | .aug x e,ρ,H,Q => ∃ v,ρ x = some v ∧ wpE sp ρ e H fun y H1 => augV v y H1 fun r H2 => Q .next (put ρ x r) H2
  | .augattr o n e,ρ,H,Q => wpE sp ρ o H fun v H1 => rdAttr v n H1 fun x H2 => wpE sp ρ e H2 fun y H3 => augV x y H3 fun r H4 => setAttrV v n r H4 fun H5 => Q .next ρ H5
  | .ifs t a b,ρ,H,Q => wpT sp ρ t H (fun H1 => wpSs sp a ρ H1 Q) (fun H1 => wpSs sp b ρ H1 Q)
  | .whl t body,ρ,H,Q => whileP (fun ρ H T F => wpT sp ρ t H T F) (fun ρ H Q => wpSs sp body ρ H Q) ρ H Q
  | .forS x e body,ρ,H,Q => wpE sp ρ e H fun v H1 => ∃ vs,itemsOfV v H1 = some vs ∧ forL (fun H => itemsOfV v H = some vs) (fun v ρ => some (put ρ x v)) (fun ρ H Q => wpSs sp body ρ H Q) vs ρ H1 Q
  | .forT xs e body,ρ,H,Q => wpE sp ρ e H fun v H1 => ∃ a vs,v = .ref a ∧ H1 a = some (.list vs) ∧ forL (fun H => H a = some (.list vs)) (setT xs) (fun ρ H Q => wpSs sp body ρ H Q) vs ρ H1 Q
  | .forR x e body,ρ,H,Q => wpE sp ρ e H fun v H1 => ∃ n : Int,v = .int n ∧ -1000 ≤ n ∧ n ≤ 1000000 ∧ forL (fun _ => True) (fun v ρ => some (put ρ x v)) (fun ρ H Q => wpSs sp body ρ H Q) ((List.range n.toNat).map fun i : Nat => .int (i : Int)) ρ H1 Q
  | .forV x e body,ρ,H,Q => wpE sp ρ e H fun v H1 => ∃ a vs,v = .ref a ∧ H1 a = some (.list vs) ∧ forL (fun H => H a = some (.list vs)) (fun v ρ => some (put ρ x v)) (fun ρ H Q => wpSs sp body ρ H Q) vs.reverse ρ H1 Q
  | .ret e,ρ,H,Q => wpE sp ρ e H fun v H1 => Q (.ret v) ρ H1
  | .retn,ρ,H,Q => Q (.ret .none) ρ H
  | .cont,ρ,H,Q => Q .cont ρ H
  | .expr e,ρ,H,Q => wpE sp ρ e H fun _ H1 => Q .next ρ H1
def wpSs (sp : Sp) : List S → Rho → AH → SPost → Prop
  | [],ρ,H,Q => Q .next ρ H
  | s :: r,ρ,H,Q => wpS sp s ρ H fun fl ρ1 H1 => match fl with
    | .next => wpSs sp r ρ1 H1 Q
    | f => Q f ρ1 H1
end
def rhoOf : List N → List V → Rho
  | x :: xs,v :: vs => put (rhoOf xs vs) x v
  | _,_ => fun _ => none
def retOf : Fl → V
  | .ret v => v
  | _ => .none
def b_Interface_find : List S := [.forS .n_obj (E.attr (E.loc .n_self) .n_objs) [.ifs (E.cmp .eq (E.attr (E.loc .n_obj) .n_name) (E.loc .n_name)) [.ret (E.loc .n_obj)] []],.ret E.none]
def b_ErrorList_mark : List S := [.ifs (E.cmp .notin (E.loc .n_place) (E.attr (E.loc .n_self) .n_places)) [.sidx (E.attr (E.loc .n_self) .n_places) (E.loc .n_place) (E.loc .n_code),.expr (E.append (E.attr (E.loc .n_self) .n_rows) (E.tup [(E.loc .n_place),(E.loc .n_code)]))] []]
def b_Scopes_find : List S := [.forV .n_scope (E.attr (E.loc .n_self) .n_stack) [.ifs (E.cmp .isin (E.loc .n_name) (E.attr (E.loc .n_scope) .n_names)) [.ret (E.idx (E.attr (E.loc .n_scope) .n_names) (E.loc .n_name))] []],.ret E.none]
def b_Token_init : List S := [.sattr (E.loc .n_self) .n_kind (E.loc .n_kind),.sattr (E.loc .n_self) .n_value (E.loc .n_value),.sattr (E.loc .n_self) .n_place (E.loc .n_place)]
def b_is_letter : List S := [.ret (E.or [(E.and [(E.cmp .le (E.str [97]) (E.loc .n_char)),(E.cmp .le (E.loc .n_char) (E.str [122]))]),(E.and [(E.cmp .le (E.str [65]) (E.loc .n_char)),(E.cmp .le (E.loc .n_char) (E.str [90]))])])]
def b_is_digit : List S := [.ret (E.and [(E.cmp .le (E.str [48]) (E.loc .n_char)),(E.cmp .le (E.loc .n_char) (E.str [57]))])]
def b_Scanner_char : List S := [.ret (E.slice (E.attr (E.loc .n_self) .n_source) (some (E.bin .add (E.attr (E.loc .n_self) .n_place) (E.loc .n_ahead))) (some (E.bin .add (E.bin .add (E.attr (E.loc .n_self) .n_place) (E.loc .n_ahead)) (E.int 1))))]
def b_Scanner_remark : List S := [.asg .n_begun (E.attr (E.loc .n_self) .n_place),.asg .n_depth (E.int 1),.sattr (E.loc .n_self) .n_place (E.bin .add (E.loc .n_begun) (E.int 2)),.whl (E.cmp .gt (E.loc .n_depth) (E.int 0)) [.asg .n_pair (E.bin .add (E.meth .c_Scanner (E.loc .n_self) .n_char []) (E.meth .c_Scanner (E.loc .n_self) .n_char [(E.int 1)])),.ifs (E.cmp .eq (E.loc .n_pair) (E.str [])) [.expr (E.meth .c_ErrorList (E.attr (E.loc .n_self) .n_errors) .n_mark [(E.loc .n_begun),(E.str [117,110,102,105,110,105,115,104,101,100,95,99,111,109,109,101,110,116])]),.retn] [],.ifs (E.cmp .eq (E.loc .n_pair) (E.str [40,42])) [.asg .n_depth (E.bin .add (E.loc .n_depth) (E.int 1)),.sattr (E.loc .n_self) .n_place (E.bin .add (E.attr (E.loc .n_self) .n_place) (E.int 2))] [.ifs (E.cmp .eq (E.loc .n_pair) (E.str [42,41])) [.asg .n_depth (E.bin .sub (E.loc .n_depth) (E.int 1)),.sattr (E.loc .n_self) .n_place (E.bin .add (E.attr (E.loc .n_self) .n_place) (E.int 2))] [.sattr (E.loc .n_self) .n_place (E.bin .add (E.attr (E.loc .n_self) .n_place) (E.int 1))]]]]
def b_Scanner_skip : List S := [.whl (E.bool true) [.asg .n_char (E.meth .c_Scanner (E.loc .n_self) .n_char []),.ifs (E.and [(E.cmp .eq (E.loc .n_char) (E.str [40])),(E.cmp .eq (E.meth .c_Scanner (E.loc .n_self) .n_char [(E.int 1)]) (E.str [42]))]) [.expr (E.meth .c_Scanner (E.loc .n_self) .n_remark [])] [.ifs (E.and [(E.cmp .ne (E.loc .n_char) (E.str [])),(E.cmp .le (E.bi .b_ord [(E.loc .n_char)]) (E.int 32))]) [.sattr (E.loc .n_self) .n_place (E.bin .add (E.attr (E.loc .n_self) .n_place) (E.int 1))] [.retn]]]]
def b_Scanner_word : List S := [.asg .n_end (E.loc .n_begun),.whl (E.or [(E.call .f_is_letter [(E.slice (E.attr (E.loc .n_self) .n_source) (some (E.loc .n_end)) (some (E.bin .add (E.loc .n_end) (E.int 1))))]),(E.call .f_is_digit [(E.slice (E.attr (E.loc .n_self) .n_source) (some (E.loc .n_end)) (some (E.bin .add (E.loc .n_end) (E.int 1))))])]) [.asg .n_end (E.bin .add (E.loc .n_end) (E.int 1))],.sattr (E.loc .n_self) .n_place (E.loc .n_end),.asg .n_name (E.slice (E.attr (E.loc .n_self) .n_source) (some (E.loc .n_begun)) (some (E.loc .n_end))),.ifs (E.cmp .isin (E.loc .n_name) (E.attr (E.loc .n_self) .n_words)) [.ret (E.new .c_Token [(E.loc .n_name),(E.str []),(E.loc .n_begun)])] [],.ret (E.new .c_Token [(E.str [105,100,101,110,116]),(E.loc .n_name),(E.loc .n_begun)])]
def b_is_hex_digit : List S := [.ret (E.or [(E.call .f_is_digit [(E.loc .n_char)]),(E.and [(E.cmp .le (E.str [65]) (E.loc .n_char)),(E.cmp .le (E.loc .n_char) (E.str [70]))])])]
def b_digits_value : List S := [.asg .n_value (E.int 0),.forS .n_digit (E.loc .n_digits) [.asg .n_value (E.bin .add (E.bin .mul (E.loc .n_value) (E.loc .n_base)) (E.sfind (E.str [48,49,50,51,52,53,54,55,56,57,65,66,67,68,69,70]) (E.loc .n_digit))),.ifs (E.cmp .gt (E.loc .n_value) (E.loc .n_most)) [.ret (E.bin .add (E.loc .n_most) (E.int 1))] []],.ret (E.loc .n_value)]
def b_Scanner_whole : List S := [.ifs (E.cmp .gt (E.loc .n_value) (E.loc .n_most)) [.expr (E.meth .c_ErrorList (E.attr (E.loc .n_self) .n_errors) .n_mark [(E.loc .n_begun),(E.str [110,117,109,98,101,114,95,116,111,111,95,108,97,114,103,101])]),.asg .n_value (E.int 0)] [],.ret (E.new .c_Token [(E.str [105,110,116]),(E.loc .n_value),(E.loc .n_begun)])]
def b_Scanner_numeral : List S := [.asg .n_end (E.loc .n_begun),.whl (E.call .f_is_hex_digit [(E.slice (E.attr (E.loc .n_self) .n_source) (some (E.loc .n_end)) (some (E.bin .add (E.loc .n_end) (E.int 1))))]) [.asg .n_end (E.bin .add (E.loc .n_end) (E.int 1))],.asg .n_digits (E.slice (E.attr (E.loc .n_self) .n_source) (some (E.loc .n_begun)) (some (E.loc .n_end))),.asg .n_ending (E.slice (E.attr (E.loc .n_self) .n_source) (some (E.loc .n_end)) (some (E.bin .add (E.loc .n_end) (E.int 1)))),.ifs (E.or [(E.cmp .eq (E.loc .n_ending) (E.str [72])),(E.cmp .eq (E.loc .n_ending) (E.str [88]))]) [.sattr (E.loc .n_self) .n_place (E.bin .add (E.loc .n_end) (E.int 1)),.ifs (E.cmp .eq (E.loc .n_ending) (E.str [72])) [.ret (E.meth .c_Scanner (E.loc .n_self) .n_hexadecimal [(E.loc .n_begun),(E.loc .n_digits)])] [],.ret (E.meth .c_Scanner (E.loc .n_self) .n_character [(E.loc .n_begun),(E.loc .n_digits)])] [],.asg .n_end (E.loc .n_begun),.whl (E.call .f_is_digit [(E.slice (E.attr (E.loc .n_self) .n_source) (some (E.loc .n_end)) (some (E.bin .add (E.loc .n_end) (E.int 1))))]) [.asg .n_end (E.bin .add (E.loc .n_end) (E.int 1))],.sattr (E.loc .n_self) .n_place (E.loc .n_end),.ifs (E.and [(E.cmp .eq (E.meth .c_Scanner (E.loc .n_self) .n_char []) (E.str [46])),(E.cmp .ne (E.meth .c_Scanner (E.loc .n_self) .n_char [(E.int 1)]) (E.str [46]))]) [.ret (E.meth .c_Scanner (E.loc .n_self) .n_real [(E.loc .n_begun)])] [],.asg .n_value (E.call .f_digits_value [(E.slice (E.attr (E.loc .n_self) .n_source) (some (E.loc .n_begun)) (some (E.loc .n_end))),(E.int 10),(E.gint (Str.ofString "MOST_INTEGER") 2147483647)]),.ret (E.meth .c_Scanner (E.loc .n_self) .n_whole [(E.loc .n_begun),(E.loc .n_value),(E.gint (Str.ofString "MOST_INTEGER") 2147483647)])]
def b_Scanner_symbol : List S := [.asg .n_pair (E.bin .add (E.meth .c_Scanner (E.loc .n_self) .n_char []) (E.meth .c_Scanner (E.loc .n_self) .n_char [(E.int 1)])),.ifs (E.cmp .isin (E.loc .n_pair) (E.tup [(E.str [58,61]),(E.str [60,61]),(E.str [62,61]),(E.str [46,46])])) [.ret (E.loc .n_pair)] [],.ifs (E.cmp .isin (E.meth .c_Scanner (E.loc .n_self) .n_char []) (E.str [43,45,42,47,126,38,46,44,59,124,40,91,123,94,61,35,60,62,58,41,93,125])) [.ret (E.meth .c_Scanner (E.loc .n_self) .n_char [])] [],.ret (E.str [])]
def b_Scanner_take : List S := [.whl (E.bool true) [.expr (E.meth .c_Scanner (E.loc .n_self) .n_skip []),.asg .n_begun (E.attr (E.loc .n_self) .n_place),.asg .n_char (E.meth .c_Scanner (E.loc .n_self) .n_char []),.ifs (E.cmp .eq (E.loc .n_char) (E.str [])) [.ret (E.new .c_Token [(E.str [101,111,102]),(E.str []),(E.loc .n_begun)])] [],.ifs (E.call .f_is_letter [(E.loc .n_char)]) [.ret (E.meth .c_Scanner (E.loc .n_self) .n_word [(E.loc .n_begun)])] [],.ifs (E.call .f_is_digit [(E.loc .n_char)]) [.ret (E.meth .c_Scanner (E.loc .n_self) .n_numeral [(E.loc .n_begun)])] [],.ifs (E.cmp .eq (E.loc .n_char) (E.str [34])) [.ret (E.meth .c_Scanner (E.loc .n_self) .n_string [(E.loc .n_begun)])] [],.asg .n_symbol (E.meth .c_Scanner (E.loc .n_self) .n_symbol []),.ifs (E.cmp .ne (E.loc .n_symbol) (E.str [])) [.sattr (E.loc .n_self) .n_place (E.bin .add (E.loc .n_begun) (E.bi .b_len [(E.loc .n_symbol)])),.ret (E.new .c_Token [(E.loc .n_symbol),(E.str []),(E.loc .n_begun)])] [],.expr (E.meth .c_ErrorList (E.attr (E.loc .n_self) .n_errors) .n_mark [(E.loc .n_begun),(E.str [98,97,100,95,99,104,97,114,97,99,116,101,114])]),.sattr (E.loc .n_self) .n_place (E.bin .add (E.loc .n_begun) (E.int 1))]]
def b_Reader_step : List S := [.asg .n_token (E.attr (E.loc .n_self) .n_token),.sattr (E.loc .n_self) .n_token (E.meth .c_Scanner (E.attr (E.loc .n_self) .n_scanner) .n_take []),.ret (E.loc .n_token)]
def b_Reader_skip : List S := [.ifs (E.cmp .ne (E.attr (E.attr (E.loc .n_self) .n_token) .n_kind) (E.loc .n_kind)) [.ret (E.bool false)] [],.expr (E.meth .c_Reader (E.loc .n_self) .n_step []),.ret (E.bool true)]
def b_Reader_mark : List S := [.expr (E.meth .c_ErrorList (E.attr (E.loc .n_self) .n_errors) .n_mark [(E.attr (E.attr (E.loc .n_self) .n_token) .n_place),(E.loc .n_code)])]
def b_Reader_expect : List S := [.ifs (E.meth .c_Reader (E.loc .n_self) .n_skip [(E.loc .n_kind)]) [.ret (E.bool true)] [],.asg .n_name (E.loc .n_kind),.ifs (E.cmp .eq (E.loc .n_kind) (E.str [105,100,101,110,116])) [.asg .n_name (E.str [105,100,101,110,116,105,102,105,101,114])] [],.expr (E.meth .c_Reader (E.loc .n_self) .n_mark [(E.bin .add (E.str [101,120,112,101,99,116,101,100,32]) (E.loc .n_name))]),.ret (E.bool false)]
def b_Reader_at : List S := [.ret (E.cmp .eq (E.attr (E.attr (E.loc .n_self) .n_token) .n_kind) (E.loc .n_kind))]
def b_Reader_name : List S := [.ifs (E.meth .c_Reader (E.loc .n_self) .n_at [(E.str [105,100,101,110,116])]) [.ret (E.meth .c_Reader (E.loc .n_self) .n_step [])] [],.expr (E.meth .c_Reader (E.loc .n_self) .n_mark [(E.str [101,120,112,101,99,116,101,100,32,105,100,101,110,116,105,102,105,101,114])]),.ret E.none]
def b_qualident : List S := [.asg .n_token (E.meth .c_Reader (E.loc .n_rd) .n_name []),.ifs (E.cmp .is_ (E.loc .n_token) E.none) [.ret E.none] [],.asg .n_found (E.meth .c_Scopes (E.attr (E.loc .n_rd) .n_scopes) .n_find [(E.attr (E.loc .n_token) .n_value)]),.ifs (E.cmp .is_ (E.loc .n_found) E.none) [.expr (E.meth .c_ErrorList (E.attr (E.loc .n_rd) .n_errors) .n_mark [(E.attr (E.loc .n_token) .n_place),(E.str [117,110,100,101,102,105,110,101,100])]),.ret E.none] [],.ifs (E.cmp .ne (E.attr (E.loc .n_found) .n_kind) (E.str [109,111,100,117,108,101])) [.ret (E.loc .n_found)] [],.ifs (E.not (E.meth .c_Reader (E.loc .n_rd) .n_expect [(E.str [46])])) [.ret E.none] [],.asg .n_inner (E.meth .c_Reader (E.loc .n_rd) .n_name []),.ifs (E.cmp .is_ (E.loc .n_inner) E.none) [.ret E.none] [],.asg .n_shown (E.meth .c_Interface (E.attr (E.loc .n_found) .n_value) .n_find [(E.attr (E.loc .n_inner) .n_value)]),.ifs (E.cmp .is_ (E.loc .n_shown) E.none) [.expr (E.meth .c_ErrorList (E.attr (E.loc .n_rd) .n_errors) .n_mark [(E.attr (E.loc .n_inner) .n_place),(E.str [110,111,116,95,101,120,112,111,114,116,101,100])])] [],.ret (E.loc .n_shown)]
def b_param_words : List S := [.ifs (E.cmp .eq (E.attr (E.loc .n_par) .n_kind) (E.str [112,97,114])) [.ifs (E.or [(E.cmp .eq (E.attr (E.attr (E.loc .n_par) .n_type) .n_form) (E.str [114,101,99,111,114,100])),(E.and [(E.cmp .eq (E.attr (E.attr (E.loc .n_par) .n_type) .n_form) (E.str [97,114,114,97,121])),(E.cmp .lt (E.attr (E.attr (E.loc .n_par) .n_type) .n_length) (E.int 0))])]) [.ret (E.int 2)] []] [],.ret (E.int 1)]
def b_is_scalar : List S := [.ret (E.cmp .isin (E.attr (E.loc .n_t) .n_form) (E.tup [(E.str [98,111,111,108,101,97,110]),(E.str [99,104,97,114]),(E.str [98,121,116,101]),(E.str [105,110,116,101,103,101,114]),(E.str [115,101,116]),(E.str [110,105,108]),(E.str [112,111,105,110,116,101,114]),(E.str [112,114,111,99])]))]
def b_Type_init : List S := [.sattr (E.loc .n_self) .n_number (E.loc .n_number),.sattr (E.loc .n_self) .n_form (E.loc .n_form),.sattr (E.loc .n_self) .n_size (E.loc .n_size),.sattr (E.loc .n_self) .n_base E.none,.sattr (E.loc .n_self) .n_length (E.int 0),.sattr (E.loc .n_self) .n_fields (E.list []),.sattr (E.loc .n_self) .n_level (E.int 0),.sattr (E.loc .n_self) .n_params (E.list []),.sattr (E.loc .n_self) .n_module (E.str []),.sattr (E.loc .n_self) .n_label (E.str []),.sattr (E.loc .n_self) .n_hidden (E.list []),.sattr (E.loc .n_self) .n_exno (E.int 0)]
def b_Obj_init : List S := [.sattr (E.loc .n_self) .n_name (E.loc .n_name),.sattr (E.loc .n_self) .n_kind (E.loc .n_kind),.sattr (E.loc .n_self) .n_type (E.loc .n_type_of),.sattr (E.loc .n_self) .n_place (E.loc .n_place),.sattr (E.loc .n_self) .n_exported (E.bool false),.sattr (E.loc .n_self) .n_readonly (E.bool false),.sattr (E.loc .n_self) .n_level (E.int 0),.sattr (E.loc .n_self) .n_module (E.str []),.sattr (E.loc .n_self) .n_value E.none,.sattr (E.loc .n_self) .n_slot (E.int 0),.sattr (E.loc .n_self) .n_offset (E.int 0),.sattr (E.loc .n_self) .n_number (E.int 0),.sattr (E.loc .n_self) .n_isparam (E.bool false),.sattr (E.loc .n_self) .n_narrowed E.none]
def b_Interface_init : List S := [.sattr (E.loc .n_self) .n_name (E.loc .n_name),.sattr (E.loc .n_self) .n_key (E.loc .n_key),.sattr (E.loc .n_self) .n_objs (E.list []),.sattr (E.loc .n_self) .n_imports (E.list [])]
def b_Types_new : List S := [.augattr (E.loc .n_self) .n_counter (E.int 1),.asg .n_made (E.new .c_Type [(E.attr (E.loc .n_self) .n_counter),(E.loc .n_form),(E.loc .n_size)]),.sattr (E.loc .n_made) .n_module (E.loc .n_module),.sattr (E.loc .n_made) .n_label (E.loc .n_label),.ifs (E.cmp .ne (E.loc .n_label) (E.str [])) [.sidx (E.attr (E.loc .n_self) .n_known) (E.tup [(E.loc .n_module),(E.loc .n_label)]) (E.loc .n_made)] [],.ret (E.loc .n_made)]
def b_Types_init : List S := [.sattr (E.loc .n_self) .n_counter (E.int 0),.sattr (E.loc .n_self) .n_known (E.dict0 .td),.sattr (E.loc .n_self) .n_boolean (E.meth .c_Types (E.loc .n_self) .n_new [(E.str [98,111,111,108,101,97,110]),(E.int 1)]),.sattr (E.loc .n_self) .n_char (E.meth .c_Types (E.loc .n_self) .n_new [(E.str [99,104,97,114]),(E.int 1)]),.sattr (E.loc .n_self) .n_byte (E.meth .c_Types (E.loc .n_self) .n_new [(E.str [98,121,116,101]),(E.int 1)]),.sattr (E.loc .n_self) .n_integer (E.meth .c_Types (E.loc .n_self) .n_new [(E.str [105,110,116,101,103,101,114]),(E.int 4)]),.sattr (E.loc .n_self) .n_mask (E.meth .c_Types (E.loc .n_self) .n_new [(E.str [115,101,116]),(E.int 4)]),.sattr (E.loc .n_self) .n_nil (E.meth .c_Types (E.loc .n_self) .n_new [(E.str [110,105,108]),(E.int 4)]),.sattr (E.loc .n_self) .n_none (E.meth .c_Types (E.loc .n_self) .n_new [(E.str [110,111,110,101]),(E.int 0)])]
def b_plain_names : List S := [.asg .n_found (E.list []),.asg .n_going (E.bool true),.whl (E.loc .n_going) [.asg .n_token (E.meth .c_Reader (E.loc .n_rd) .n_name []),.ifs (E.cmp .is_ (E.loc .n_token) E.none) [.ret (E.loc .n_found)] [],.expr (E.append (E.loc .n_found) (E.loc .n_token)),.asg .n_going (E.meth .c_Reader (E.loc .n_rd) .n_skip [(E.str [44])])],.ret (E.loc .n_found)]
def b_type_name : List S := [.asg .n_place (E.attr (E.attr (E.loc .n_rd) .n_token) .n_place),.ifs (E.not (E.meth .c_Reader (E.loc .n_rd) .n_at [(E.str [105,100,101,110,116])])) [.expr (E.meth .c_Reader (E.loc .n_rd) .n_mark [(E.str [101,120,112,101,99,116,101,100,32,116,121,112,101])]),.ret (E.attr (E.attr (E.loc .n_rd) .n_types) .n_integer)] [],.asg .n_obj (E.call .f_qualident [(E.loc .n_rd)]),.ifs (E.cmp .is_ (E.loc .n_obj) E.none) [.ret (E.attr (E.attr (E.loc .n_rd) .n_types) .n_integer)] [],.ifs (E.cmp .ne (E.attr (E.loc .n_obj) .n_kind) (E.str [116,121,112,101])) [.expr (E.meth .c_ErrorList (E.attr (E.loc .n_rd) .n_errors) .n_mark [(E.loc .n_place),(E.str [110,111,116,95,97,95,116,121,112,101])]),.ret (E.attr (E.attr (E.loc .n_rd) .n_types) .n_integer)] [],.ifs (E.cmp .eq (E.attr (E.attr (E.loc .n_obj) .n_type) .n_form) (E.str [110,111,110,101])) [.expr (E.meth .c_ErrorList (E.attr (E.loc .n_rd) .n_errors) .n_mark [(E.loc .n_place),(E.str [114,101,99,117,114,115,105,118,101,95,116,121,112,101])]),.ret (E.attr (E.attr (E.loc .n_rd) .n_types) .n_integer)] [],.ret (E.attr (E.loc .n_obj) .n_type)]
def b_formal_type : List S := [.ifs (E.not (E.meth .c_Reader (E.loc .n_rd) .n_skip [(E.str [65,82,82,65,89])])) [.ret (E.call .f_type_name [(E.loc .n_rd)])] [],.expr (E.meth .c_Reader (E.loc .n_rd) .n_expect [(E.str [79,70])]),.ifs (E.meth .c_Reader (E.loc .n_rd) .n_at [(E.str [65,82,82,65,89])]) [.expr (E.meth .c_Reader (E.loc .n_rd) .n_mark [(E.str [111,112,101,110,95,97,114,114,97,121])]),.whl (E.meth .c_Reader (E.loc .n_rd) .n_skip [(E.str [65,82,82,65,89])]) [.expr (E.meth .c_Reader (E.loc .n_rd) .n_expect [(E.str [79,70])])]] [],.asg .n_element (E.call .f_type_name [(E.loc .n_rd)]),.asg .n_made (E.meth .c_Types (E.attr (E.loc .n_rd) .n_types) .n_new [(E.str [97,114,114,97,121]),(E.int 0),(E.attr (E.loc .n_rd) .n_module),(E.loc .n_label)]),.sattr (E.loc .n_made) .n_base (E.loc .n_element),.sattr (E.loc .n_made) .n_length (E.neg 1),.ret (E.loc .n_made)]
def b_words_of : List S := [.asg .n_total (E.int 0),.forS .n_par (E.loc .n_params) [.aug .n_total (E.call .f_param_words [(E.loc .n_par)])],.ret (E.loc .n_total)]
def b_section : List S := [.asg .n_variable (E.meth .c_Reader (E.loc .n_rd) .n_skip [(E.str [86,65,82])]),.asg .n_names (E.call .f_plain_names [(E.loc .n_rd)]),.expr (E.meth .c_Reader (E.loc .n_rd) .n_expect [(E.str [58])]),.asg .n_first (E.str []),.ifs (E.cmp .gt (E.bi .b_len [(E.loc .n_names)]) (E.int 0)) [.asg .n_first (E.attr (E.idx (E.loc .n_names) (E.int 0)) .n_value)] [],.asg .n_t (E.call .f_formal_type [(E.loc .n_rd),(E.bin .add (E.bin .add (E.loc .n_label) (E.str [40])) (E.loc .n_first))]),.asg .n_structured (E.or [(E.cmp .eq (E.attr (E.loc .n_t) .n_form) (E.str [97,114,114,97,121])),(E.cmp .eq (E.attr (E.loc .n_t) .n_form) (E.str [114,101,99,111,114,100]))]),.forS .n_token (E.loc .n_names) [.ifs (E.cmp .isin (E.attr (E.loc .n_token) .n_value) (E.compA (E.loc .n_found) .n_par .n_name)) [.expr (E.meth .c_ErrorList (E.attr (E.loc .n_rd) .n_errors) .n_mark [(E.attr (E.loc .n_token) .n_place),(E.str [100,101,102,105,110,101,100,95,116,119,105,99,101])])] [.asg .n_par (E.new .c_Obj [(E.attr (E.loc .n_token) .n_value),(E.ite (E.or [(E.loc .n_variable),(E.loc .n_structured)]) (E.str [112,97,114]) (E.str [118,97,114])),(E.loc .n_t),(E.attr (E.loc .n_token) .n_place)]),.sattr (E.loc .n_par) .n_readonly (E.and [(E.loc .n_structured),(E.not (E.loc .n_variable))]),.sattr (E.loc .n_par) .n_isparam (E.bool true),.sattr (E.loc .n_par) .n_module (E.attr (E.loc .n_rd) .n_module),.sattr (E.loc .n_par) .n_level (E.attr (E.attr (E.loc .n_rd) .n_scopes) .n_level),.sattr (E.loc .n_par) .n_slot (E.bi .b_len [(E.loc .n_found)]),.expr (E.append (E.loc .n_found) (E.loc .n_par)),.ifs (E.cmp .gt (E.call .f_words_of [(E.loc .n_found)]) (E.gint (Str.ofString "MOST_WORDS") 60)) [.expr (E.meth .c_ErrorList (E.attr (E.loc .n_rd) .n_errors) .n_mark [(E.attr (E.loc .n_token) .n_place),(E.str [116,111,111,95,108,97,114,103,101])])] []]]]
def b_result_of : List S := [.asg .n_place (E.attr (E.attr (E.loc .n_rd) .n_token) .n_place),.asg .n_t (E.call .f_type_name [(E.loc .n_rd)]),.ifs (E.not (E.call .f_is_scalar [(E.loc .n_t)])) [.expr (E.meth .c_ErrorList (E.attr (E.loc .n_rd) .n_errors) .n_mark [(E.loc .n_place),(E.str [114,101,115,117,108,116,95,116,121,112,101])]),.ret (E.attr (E.attr (E.loc .n_rd) .n_types) .n_integer)] [],.ret (E.loc .n_t)]
def b_parameters : List S := [.asg .n_found (E.list []),.sattr (E.loc .n_made) .n_base (E.attr (E.attr (E.loc .n_rd) .n_types) .n_none),.sattr (E.loc .n_made) .n_params (E.loc .n_found),.ifs (E.not (E.meth .c_Reader (E.loc .n_rd) .n_skip [(E.str [40])])) [.ret (E.loc .n_found)] [],.ifs (E.not (E.meth .c_Reader (E.loc .n_rd) .n_at [(E.str [41])])) [.expr (E.call .f_section [(E.loc .n_rd),(E.loc .n_label),(E.loc .n_found)]),.whl (E.meth .c_Reader (E.loc .n_rd) .n_skip [(E.str [59])]) [.expr (E.call .f_section [(E.loc .n_rd),(E.loc .n_label),(E.loc .n_found)])]] [],.expr (E.meth .c_Reader (E.loc .n_rd) .n_expect [(E.str [41])]),.ifs (E.meth .c_Reader (E.loc .n_rd) .n_skip [(E.str [58])]) [.sattr (E.loc .n_made) .n_base (E.call .f_result_of [(E.loc .n_rd)])] [],.ret (E.loc .n_found)]
def b_ErrorList_init : List S := [.sattr (E.loc .n_self) .n_rows (E.list []),.sattr (E.loc .n_self) .n_places (E.dict0 .idt)]
def b_keywords : List S := [.ret (E.tup [(E.str [65,82,82,65,89]),(E.str [66,69,71,73,78]),(E.str [66,89]),(E.str [67,65,83,69]),(E.str [67,79,78,83,84]),(E.str [68,73,86]),(E.str [68,79]),(E.str [69,76,83,69]),(E.str [69,76,83,73,70]),(E.str [69,78,68]),(E.str [70,79,82]),(E.str [73,70]),(E.str [73,77,80,79,82,84]),(E.str [73,78]),(E.str [73,83]),(E.str [77,79,68]),(E.str [77,79,68,85,76,69]),(E.str [78,73,76]),(E.str [79,70]),(E.str [79,82]),(E.str [80,79,73,78,84,69,82]),(E.str [80,82,79,67,69,68,85,82,69]),(E.str [82,69,67,79,82,68]),(E.str [82,69,80,69,65,84]),(E.str [82,69,84,85,82,78]),(E.str [84,72,69,78]),(E.str [84,79]),(E.str [84,89,80,69]),(E.str [85,78,84,73,76]),(E.str [86,65,82]),(E.str [87,72,73,76,69])])]
def b_Scanner_init : List S := [.sattr (E.loc .n_self) .n_source (E.loc .n_source),.sattr (E.loc .n_self) .n_errors (E.loc .n_errors),.sattr (E.loc .n_self) .n_place (E.int 0),.sattr (E.loc .n_self) .n_words (E.call .f_keywords [])]
def b_Scope_init : List S := [.sattr (E.loc .n_self) .n_level (E.loc .n_level),.sattr (E.loc .n_self) .n_label (E.loc .n_label),.sattr (E.loc .n_self) .n_names (E.dict0 .sd),.sattr (E.loc .n_self) .n_order (E.list []),.sattr (E.loc .n_self) .n_slots (E.int 0)]
def b_Scopes_init : List S := [.sattr (E.loc .n_self) .n_types (E.loc .n_types),.sattr (E.loc .n_self) .n_module (E.loc .n_module),.sattr (E.loc .n_self) .n_stack (E.list [(E.new .c_Scope [(E.neg 1),(E.str [])])]),.sattr (E.loc .n_self) .n_level (E.neg 1)]
def b_Scopes_open : List S := [.asg .n_scope (E.new .c_Scope [(E.bin .add (E.attr (E.loc .n_self) .n_level) (E.int 1)),(E.loc .n_label)]),.expr (E.append (E.attr (E.loc .n_self) .n_stack) (E.loc .n_scope)),.sattr (E.loc .n_self) .n_level (E.attr (E.loc .n_scope) .n_level),.ret (E.loc .n_scope)]
def b_Scopes_current : List S := [.ret (E.idx (E.attr (E.loc .n_self) .n_stack) (E.neg 1))]
def b_Scopes_add : List S := [.asg .n_scope (E.idx (E.attr (E.loc .n_self) .n_stack) (E.neg 1)),.ifs (E.cmp .isin (E.attr (E.loc .n_obj) .n_name) (E.attr (E.loc .n_scope) .n_names)) [.ret (E.bool false)] [],.sidx (E.attr (E.loc .n_scope) .n_names) (E.attr (E.loc .n_obj) .n_name) (E.loc .n_obj),.expr (E.append (E.attr (E.loc .n_scope) .n_order) (E.loc .n_obj)),.ifs (E.or [(E.cmp .eq (E.attr (E.loc .n_obj) .n_kind) (E.str [118,97,114])),(E.cmp .eq (E.attr (E.loc .n_obj) .n_kind) (E.str [112,97,114]))]) [.sattr (E.loc .n_obj) .n_slot (E.attr (E.loc .n_scope) .n_slots),.augattr (E.loc .n_scope) .n_slots (E.int 1)] [],.ret (E.bool true)]
def b_Scopes_insert : List S := [.asg .n_obj (E.new .c_Obj [(E.loc .n_name),(E.loc .n_kind),(E.loc .n_t),(E.loc .n_place)]),.sattr (E.loc .n_obj) .n_level (E.bi .b_max [(E.attr (E.loc .n_self) .n_level),(E.int 0)]),.ifs (E.cmp .ge (E.attr (E.loc .n_self) .n_level) (E.int 0)) [.sattr (E.loc .n_obj) .n_module (E.attr (E.loc .n_self) .n_module)] [],.ifs (E.not (E.meth .c_Scopes (E.loc .n_self) .n_add [(E.loc .n_obj)])) [.ret E.none] [],.ret (E.loc .n_obj)]
def b_std_functions : List S := [.ret (E.tup [(E.str [65,66,83]),(E.str [79,68,68]),(E.str [76,69,78]),(E.str [76,83,76]),(E.str [65,83,82]),(E.str [82,79,82]),(E.str [79,82,68]),(E.str [67,72,82])])]
def b_std_procedures : List S := [.ret (E.tup [(E.str [73,78,67]),(E.str [68,69,67]),(E.str [73,78,67,76]),(E.str [69,88,67,76]),(E.str [78,69,87]),(E.str [65,83,83,69,82,84])])]
def b_fill : List S := [.asg .n_types (E.attr (E.loc .n_scopes) .n_types),.expr (E.meth .c_Scopes (E.loc .n_scopes) .n_insert [(E.str [66,79,79,76,69,65,78]),(E.str [116,121,112,101]),(E.attr (E.loc .n_types) .n_boolean),(E.int 0)]),.expr (E.meth .c_Scopes (E.loc .n_scopes) .n_insert [(E.str [67,72,65,82]),(E.str [116,121,112,101]),(E.attr (E.loc .n_types) .n_char),(E.int 0)]),.expr (E.meth .c_Scopes (E.loc .n_scopes) .n_insert [(E.str [66,89,84,69]),(E.str [116,121,112,101]),(E.attr (E.loc .n_types) .n_byte),(E.int 0)]),.expr (E.meth .c_Scopes (E.loc .n_scopes) .n_insert [(E.str [73,78,84,69,71,69,82]),(E.str [116,121,112,101]),(E.attr (E.loc .n_types) .n_integer),(E.int 0)]),.expr (E.meth .c_Scopes (E.loc .n_scopes) .n_insert [(E.str [83,69,84]),(E.str [116,121,112,101]),(E.attr (E.loc .n_types) .n_mask),(E.int 0)]),.sattr (E.meth .c_Scopes (E.loc .n_scopes) .n_insert [(E.str [70,65,76,83,69]),(E.str [99,111,110,115,116]),(E.attr (E.loc .n_types) .n_boolean),(E.int 0)]) .n_value (E.int 0),.sattr (E.meth .c_Scopes (E.loc .n_scopes) .n_insert [(E.str [84,82,85,69]),(E.str [99,111,110,115,116]),(E.attr (E.loc .n_types) .n_boolean),(E.int 0)]) .n_value (E.int 1),.forS .n_name (E.bin .add (E.call .f_std_functions []) (E.call .f_std_procedures [])) [.sattr (E.meth .c_Scopes (E.loc .n_scopes) .n_insert [(E.loc .n_name),(E.str [115,116,100]),(E.attr (E.loc .n_types) .n_none),(E.int 0)]) .n_value (E.loc .n_name)]]
def b_Reader_init : List S := [.sattr (E.loc .n_self) .n_scanner (E.new .c_Scanner [(E.loc .n_source),(E.loc .n_errors)]),.sattr (E.loc .n_self) .n_types (E.loc .n_types),.sattr (E.loc .n_self) .n_errors (E.loc .n_errors),.sattr (E.loc .n_self) .n_importer (E.loc .n_importer),.sattr (E.loc .n_self) .n_scopes (E.new .c_Scopes [(E.loc .n_types),(E.str [])]),.expr (E.call .f_fill [(E.attr (E.loc .n_self) .n_scopes)]),.sattr (E.loc .n_self) .n_module (E.str []),.sattr (E.loc .n_self) .n_procs (E.list []),.sattr (E.loc .n_self) .n_records (E.list []),.sattr (E.loc .n_self) .n_forwards (E.list []),.sattr (E.loc .n_self) .n_level (E.int 0),.sattr (E.loc .n_self) .n_nest (E.int 0),.sattr (E.loc .n_self) .n_parts (E.int 0),.sattr (E.loc .n_self) .n_token (E.meth .c_Scanner (E.attr (E.loc .n_self) .n_scanner) .n_take [])]
def b_law_take : List S := [.unpk [.n_cells,.n_rest,.n_mixed] (E.loc .n_pool),.ifs (E.and [(E.cmp .eq (E.loc .n_rest) (E.int 0)),(E.cmp .ne (E.loc .n_cells) (E.list []))]) [.asg .n_big (E.bi .b_abs [(E.bi .b_int [(E.pop0 (E.loc .n_cells))])]),.ifs (E.cmp .ge (E.loc .n_big) (E.pow 10 18)) [.asg .n_rest (E.bin .mod (E.loc .n_big) (E.pow 10 400))] [.asg .n_mixed (E.bin .mod (E.bin .add (E.bin .add (E.bin .mul (E.loc .n_mixed) (E.int 157)) (E.bin .mul (E.bin .mod (E.loc .n_big) (E.int 32719)) (E.int 89))) (E.int 11)) (E.int 32749)),.asg .n_rest (E.loc .n_mixed)]] [.ifs (E.cmp .eq (E.loc .n_rest) (E.int 0)) [.asg .n_mixed (E.bin .mod (E.bin .mul (E.loc .n_mixed) (E.int 157)) (E.int 32749)),.asg .n_rest (E.loc .n_mixed)] []],.sidx (E.loc .n_pool) (E.int 1) (E.bin .fdiv (E.loc .n_rest) (E.loc .n_most)),.sidx (E.loc .n_pool) (E.int 2) (E.loc .n_mixed),.ret (E.bin .mod (E.loc .n_rest) (E.loc .n_most))]
def b_law_named : List S := [.ret (E.bin .add (E.bi .b_chr [(E.bin .add (E.int 97) (E.bin .mod (E.loc .n_figure) (E.int 26)))]) (E.bi .b_str [(E.loc .n_figure)]))]
def b_law_loose : List S := [.asg .n_written (E.list [(E.str [40]),(E.str [41]),(E.str [58]),(E.str [59]),(E.str [44]),(E.str [46]),(E.str [86,65,82]),(E.str [65,82,82,65,89]),(E.str [79,70]),(E.str [55]),(E.str [61]),(E.str [82,69,67,79,82,68]),(E.str [84]),(E.str [73,78,84,69,71,69,82]),(E.str [65]),(E.str [86]),(E.str [110,111,112,101])]),.asg .n_which (E.call .f_law_take [(E.loc .n_pool),(E.int 20)]),.ifs (E.cmp .lt (E.loc .n_which) (E.int 17)) [.ret (E.idx (E.loc .n_written) (E.loc .n_which))] [],.ret (E.call .f_law_named [(E.call .f_law_take [(E.loc .n_pool),(E.int 9)])])]
def b_law_of_type : List S := [.asg .n_written (E.list [(E.list [(E.str [73,78,84,69,71,69,82])]),(E.list [(E.str [84])]),(E.list [(E.str [67,72,65,82])]),(E.list [(E.str [86])]),(E.list [(E.str [80])]),(E.list [(E.str [65]),(E.str [46]),(E.str [84])]),(E.list [(E.str [66,89,84,69])]),(E.list [(E.str [83,69,84])]),(E.list [(E.str [65]),(E.str [46]),(E.str [80])]),(E.list [(E.str [66,79,79,76,69,65,78])]),(E.list [(E.str [87])]),(E.list [(E.str [120])]),(E.list [(E.str [70])]),(E.list [(E.str [110,111,112,101])]),(E.list [(E.str [65]),(E.str [46]),(E.str [120])]),(E.list [(E.str [65]),(E.str [46]),(E.str [110,111,112,101])]),(E.list [(E.str [84,82,85,69])]),(E.list [(E.str [65,66,83])]),(E.list [(E.str [65])])]),.asg .n_which (E.call .f_law_take [(E.loc .n_pool),(E.int 29)]),.ret (E.idx (E.loc .n_written) (E.ite (E.cmp .lt (E.loc .n_which) (E.int 19)) (E.loc .n_which) (E.bin .sub (E.loc .n_which) (E.int 19))))]
def b_law_part : List S := [.asg .n_row (E.ite (E.cmp .eq (E.call .f_law_take [(E.loc .n_pool),(E.int 3)]) (E.int 1)) (E.list [(E.str [86,65,82])]) (E.list [])),.ifs (E.cmp .eq (E.call .f_law_take [(E.loc .n_pool),(E.int 2)]) (E.int 1)) [.aug .n_row (E.list [(E.call .f_law_named [(E.call .f_law_take [(E.loc .n_pool),(E.int 9)])]),(E.str [44])])] [],.aug .n_row (E.list [(E.call .f_law_named [(E.call .f_law_take [(E.loc .n_pool),(E.int 9)])]),(E.str [58])]),.forR .n_again (E.bin .sub (E.call .f_law_take [(E.loc .n_pool),(E.int 5)]) (E.int 2)) [.aug .n_row (E.list [(E.str [65,82,82,65,89]),(E.str [79,70])])],.ret (E.bin .add (E.loc .n_row) (E.call .f_law_of_type [(E.loc .n_pool)]))]
def b_law_formal : List S := [.asg .n_row (E.list [(E.str [40])]),.forR .n_each (E.bin .mod (E.bin .add (E.int 1) (E.call .f_law_take [(E.loc .n_pool),(E.int 3)])) (E.int 3)) [.ifs (E.cmp .gt (E.loc .n_each) (E.int 0)) [.expr (E.append (E.loc .n_row) (E.str [59]))] [],.aug .n_row (E.call .f_law_part [(E.loc .n_pool)])],.expr (E.append (E.loc .n_row) (E.str [41])),.ifs (E.cmp .eq (E.call .f_law_take [(E.loc .n_pool),(E.int 3)]) (E.int 1)) [.expr (E.append (E.loc .n_row) (E.str [58])),.aug .n_row (E.call .f_law_of_type [(E.loc .n_pool)])] [],.ret (E.loc .n_row)]
def b_law_row : List S := [.ifs (E.loc .n_alone) [.asg .n_row (E.call .f_law_part [(E.loc .n_pool)])] [.ifs (E.cmp .eq (E.call .f_law_take [(E.loc .n_pool),(E.int 4)]) (E.int 1)) [.asg .n_row (E.list [(E.str [40])]),.forR .n_each (E.call .f_law_take [(E.loc .n_pool),(E.int 10)]) [.expr (E.append (E.loc .n_row) (E.call .f_law_loose [(E.loc .n_pool)]))]] [.asg .n_row (E.call .f_law_formal [(E.loc .n_pool)])]],.forR .n_each (E.call .f_law_take [(E.loc .n_pool),(E.int 3)]) [.asg .n_deed (E.call .f_law_take [(E.loc .n_pool),(E.int 3)]),.asg .n_spot (E.call .f_law_take [(E.loc .n_pool),(E.bin .add (E.bi .b_len [(E.loc .n_row)]) (E.int 1))]),.asg .n_more (E.ite (E.cmp .eq (E.loc .n_deed) (E.int 0)) (E.list []) (E.list [(E.call .f_law_loose [(E.loc .n_pool)])])),.asg .n_row (E.bin .add (E.bin .add (E.slice (E.loc .n_row) none (some (E.loc .n_spot))) (E.loc .n_more)) (E.slice (E.loc .n_row) (some (E.ite (E.cmp .eq (E.loc .n_deed) (E.int 1)) (E.loc .n_spot) (E.bin .add (E.loc .n_spot) (E.int 1)))) none))],.ifs (E.cmp .eq (E.call .f_law_take [(E.loc .n_pool),(E.int 2)]) (E.int 1)) [.expr (E.append (E.loc .n_row) (E.call .f_law_loose [(E.loc .n_pool)]))] [],.ret (E.loc .n_row)]
def b_law_written : List S := [.asg .n_said (E.str []),.asg .n_rows (E.list []),.asg .n_remarks (E.int 0),.forS .n_sign (E.loc .n_row) [.asg .n_which (E.call .f_law_take [(E.loc .n_pool),(E.int 5)]),.aug .n_remarks (E.ite (E.cmp .eq (E.loc .n_which) (E.int 3)) (E.int 1) (E.int 0)),.asg .n_gap (E.idx (E.list [(E.str [32]),(E.str []),(E.str [10]),(E.str [32,40,42,32,59,40,42,58,42,41,42,41,32]),(E.str [9])]) (E.loc .n_which)),.ifs (E.or [(E.and [(E.cmp .eq (E.loc .n_gap) (E.str [])),(E.cmp .notin (E.loc .n_sign) (E.list [(E.str [40]),(E.str [41]),(E.str [58]),(E.str [59]),(E.str [44])]))]),(E.and [(E.cmp .eq (E.loc .n_which) (E.int 3)),(E.cmp .gt (E.loc .n_remarks) (E.int 2))])]) [.asg .n_gap (E.str [32])] [],.aug .n_said (E.loc .n_gap),.asg .n_sort (E.ite (E.cmp .eq (E.loc .n_sign) (E.str [55])) (E.str [105,110,116]) (E.str [105,100,101,110,116])),.ifs (E.cmp .isin (E.loc .n_sign) (E.list [(E.str [40]),(E.str [41]),(E.str [58]),(E.str [59]),(E.str [44]),(E.str [46]),(E.str [61]),(E.str [86,65,82]),(E.str [65,82,82,65,89]),(E.str [79,70]),(E.str [82,69,67,79,82,68])])) [.asg .n_sort (E.loc .n_sign)] [],.expr (E.append (E.loc .n_rows) (E.tup [(E.loc .n_sort),(E.loc .n_sign),(E.bi .b_len [(E.loc .n_said)])])),.aug .n_said (E.loc .n_sign)],.expr (E.append (E.loc .n_rows) (E.tup [(E.str [101,111,102]),(E.str []),(E.bi .b_len [(E.loc .n_said)])])),.ret (E.tup [(E.loc .n_said),(E.loc .n_rows)])]
def b_law_mark : List S := [.ifs (E.cmp .notin (E.loc .n_spot) (E.compI (E.loc .n_marks) .n_one 0)) [.expr (E.append (E.loc .n_marks) (E.tup [(E.loc .n_spot),(E.loc .n_code)]))] []]
def b_law_meaning : List S := [.unpk [.n_sort,.n_sign,.n_spot] (E.idx (E.loc .n_rows) (E.loc .n_at)),.ifs (E.cmp .ne (E.loc .n_sort) (E.str [105,100,101,110,116])) [.expr (E.call .f_law_mark [(E.loc .n_marks),(E.loc .n_spot),(E.str [101,120,112,101,99,116,101,100,32,116,121,112,101])]),.ret (E.tup [(E.loc .n_at),E.none])] [],.unpk [.n_use,.n_found] (E.dget (E.loc .n_meanings) (E.loc .n_sign) (E.tup [(E.str [117,110,100,101,102,105,110,101,100]),E.none])),.aug .n_at (E.int 1),.asg .n_fault (E.loc .n_spot),.ifs (E.cmp .eq (E.loc .n_use) (E.str [109,111,100,117,108,101])) [.ifs (E.cmp .ne (E.idx (E.idx (E.loc .n_rows) (E.loc .n_at)) (E.int 0)) (E.str [46])) [.expr (E.call .f_law_mark [(E.loc .n_marks),(E.idx (E.idx (E.loc .n_rows) (E.loc .n_at)) (E.int 2)),(E.str [101,120,112,101,99,116,101,100,32,46])]),.ret (E.tup [(E.loc .n_at),E.none])] [],.aug .n_at (E.int 1),.unpk [.n_sort,.n_sign,.n_fault] (E.idx (E.loc .n_rows) (E.loc .n_at)),.ifs (E.cmp .ne (E.loc .n_sort) (E.str [105,100,101,110,116])) [.expr (E.call .f_law_mark [(E.loc .n_marks),(E.loc .n_fault),(E.str [101,120,112,101,99,116,101,100,32,105,100,101,110,116,105,102,105,101,114])]),.ret (E.tup [(E.loc .n_at),E.none])] [],.aug .n_at (E.int 1),.unpk [.n_use,.n_found] (E.dget (E.loc .n_meanings) (E.bin .add (E.str [65,46]) (E.loc .n_sign)) (E.tup [(E.str [110,111,116,95,101,120,112,111,114,116,101,100]),E.none]))] [],.ifs (E.cmp .eq (E.loc .n_use) (E.str [116,121,112,101])) [.ret (E.tup [(E.loc .n_at),(E.loc .n_found)])] [],.expr (E.call .f_law_mark [(E.loc .n_marks),(E.ite (E.cmp .eq (E.loc .n_use) (E.str [110,111,116,95,101,120,112,111,114,116,101,100])) (E.loc .n_fault) (E.loc .n_spot)),(E.loc .n_use)]),.ret (E.tup [(E.loc .n_at),E.none])]
def b_law_due : List S := [.asg .n_marks (E.list []),.asg .n_pars (E.list []),.asg .n_agenda (E.list [(E.ite (E.cmp .gt (E.loc .n_many) (E.int 0)) (E.str [115,101,99,116,105,111,110]) (E.str [108,105,115,116]))]),.asg .n_at (E.int 0),.asg .n_words (E.bin .mul (E.int 2) (E.loc .n_many)),.asg .n_arrays (E.int 0),.asg .n_back (E.loc .n_none),.whl (E.cmp .ne (E.loc .n_agenda) (E.list [])) [.asg .n_deed (E.pop (E.loc .n_agenda)),.unpk [.n_sort,.n_sign,.n_spot] (E.idx (E.loc .n_rows) (E.loc .n_at)),.ifs (E.cmp .eq (E.loc .n_deed) (E.str [108,105,115,116])) [.ifs (E.cmp .eq (E.loc .n_sort) (E.str [40])) [.aug .n_at (E.int 1),.asg .n_agenda (E.ite (E.cmp .eq (E.idx (E.idx (E.loc .n_rows) (E.loc .n_at)) (E.int 0)) (E.str [41])) (E.list [(E.str [114,101,115,117,108,116]),(E.str [41])]) (E.list [(E.str [114,101,115,117,108,116]),(E.str [41]),(E.str [102,117,114,116,104,101,114]),(E.str [115,101,99,116,105,111,110])]))] []] [.ifs (E.cmp .eq (E.loc .n_deed) (E.str [102,117,114,116,104,101,114])) [.ifs (E.cmp .eq (E.loc .n_sort) (E.str [59])) [.aug .n_at (E.int 1),.aug .n_agenda (E.list [(E.str [102,117,114,116,104,101,114]),(E.str [115,101,99,116,105,111,110])])] []] [.ifs (E.cmp .eq (E.loc .n_deed) (E.str [115,101,99,116,105,111,110])) [.asg .n_variable (E.cmp .eq (E.loc .n_sort) (E.str [86,65,82])),.aug .n_at (E.ite (E.loc .n_variable) (E.int 1) (E.int 0)),.asg .n_names (E.list []),.asg .n_opened (E.bool false),.aug .n_agenda (E.list [(E.str [101,110,116,101,114,101,100]),(E.str [102,111,114,109,97,108]),(E.str [58]),(E.str [110,97,109,101])])] [.ifs (E.cmp .eq (E.loc .n_deed) (E.str [110,97,109,101])) [.ifs (E.cmp .ne (E.loc .n_sort) (E.str [105,100,101,110,116])) [.expr (E.call .f_law_mark [(E.loc .n_marks),(E.loc .n_spot),(E.str [101,120,112,101,99,116,101,100,32,105,100,101,110,116,105,102,105,101,114])]),.cont] [],.expr (E.append (E.loc .n_names) (E.tup [(E.loc .n_sign),(E.loc .n_spot)])),.aug .n_at (E.int 1),.ifs (E.cmp .eq (E.idx (E.idx (E.loc .n_rows) (E.loc .n_at)) (E.int 0)) (E.str [44])) [.aug .n_at (E.int 1),.expr (E.append (E.loc .n_agenda) (E.str [110,97,109,101]))] []] [.ifs (E.cmp .eq (E.loc .n_deed) (E.str [102,111,114,109,97,108])) [.expr (E.append (E.loc .n_agenda) (E.str [110,97,109,101,100])),.ifs (E.cmp .eq (E.loc .n_sort) (E.str [65,82,82,65,89])) [.aug .n_at (E.int 1),.asg .n_opened (E.bool true),.aug .n_agenda (E.list [(E.str [110,111,95,97,114,114,97,121]),(E.str [79,70])])] []] [.ifs (E.cmp .eq (E.loc .n_deed) (E.str [110,111,95,97,114,114,97,121])) [.ifs (E.cmp .eq (E.loc .n_sort) (E.str [65,82,82,65,89])) [.expr (E.call .f_law_mark [(E.loc .n_marks),(E.loc .n_spot),(E.str [111,112,101,110,95,97,114,114,97,121])]),.expr (E.append (E.loc .n_agenda) (E.str [112,97,115,115,101,100]))] []] [.ifs (E.cmp .eq (E.loc .n_deed) (E.str [112,97,115,115,101,100])) [.ifs (E.cmp .eq (E.loc .n_sort) (E.str [65,82,82,65,89])) [.aug .n_at (E.int 1),.aug .n_agenda (E.list [(E.str [112,97,115,115,101,100]),(E.str [79,70])])] []] [.ifs (E.cmp .eq (E.loc .n_deed) (E.str [110,97,109,101,100])) [.unpk [.n_at,.n_found] (E.call .f_law_meaning [(E.loc .n_rows),(E.loc .n_at),(E.loc .n_meanings),(E.loc .n_marks)]),.asg .n_t (E.ite (E.cmp .is_ (E.loc .n_found) E.none) (E.loc .n_whole) (E.loc .n_found))] [.ifs (E.cmp .eq (E.loc .n_deed) (E.str [101,110,116,101,114,101,100])) [.aug .n_arrays (E.ite (E.loc .n_opened) (E.int 1) (E.int 0)),.asg .n_owner (E.ite (E.cmp .ne (E.loc .n_names) (E.list [])) (E.idx (E.idx (E.loc .n_names) (E.int 0)) (E.int 0)) (E.str [])),.asg .n_closed (E.and [(E.or [(E.loc .n_opened),(E.cmp .isin (E.attr (E.loc .n_t) .n_form) (E.list [(E.str [97,114,114,97,121]),(E.str [114,101,99,111,114,100])]))]),(E.not (E.loc .n_variable))]),.forT [.n_name,.n_where] (E.loc .n_names) [.ifs (E.or [(E.cmp .isin (E.loc .n_name) (E.compI (E.loc .n_pars) .n_one 0)),(E.and [(E.cmp .gt (E.loc .n_many) (E.int 0)),(E.cmp .eq (E.loc .n_name) (E.str [97,48]))])]) [.expr (E.call .f_law_mark [(E.loc .n_marks),(E.loc .n_where),(E.str [100,101,102,105,110,101,100,95,116,119,105,99,101])]),.cont] [],.expr (E.append (E.loc .n_pars) (E.tup [(E.loc .n_name),(E.loc .n_where),(E.ite (E.or [(E.loc .n_closed),(E.loc .n_variable)]) (E.str [112,97,114]) (E.str [118,97,114])),(E.loc .n_closed),(E.ite (E.loc .n_opened) (E.loc .n_arrays) (E.int 0)),(E.loc .n_t),(E.loc .n_owner)])),.aug .n_words (E.ite (E.or [(E.loc .n_opened),(E.cmp .eq (E.attr (E.loc .n_t) .n_form) (E.str [114,101,99,111,114,100]))]) (E.int 2) (E.int 1)),.ifs (E.cmp .gt (E.loc .n_words) (E.int 60)) [.expr (E.call .f_law_mark [(E.loc .n_marks),(E.loc .n_where),(E.str [116,111,111,95,108,97,114,103,101])])] []]] [.ifs (E.cmp .eq (E.loc .n_deed) (E.str [114,101,115,117,108,116])) [.ifs (E.cmp .eq (E.loc .n_sort) (E.str [58])) [.aug .n_at (E.int 1),.asg .n_behind (E.idx (E.idx (E.loc .n_rows) (E.loc .n_at)) (E.int 2)),.aug .n_agenda (E.list [(E.str [115,105,110,103,108,101]),(E.str [110,97,109,101,100])])] []] [.ifs (E.cmp .eq (E.loc .n_deed) (E.str [115,105,110,103,108,101])) [.asg .n_back (E.loc .n_t),.ifs (E.cmp .isin (E.attr (E.loc .n_t) .n_form) (E.list [(E.str [97,114,114,97,121]),(E.str [114,101,99,111,114,100])])) [.expr (E.call .f_law_mark [(E.loc .n_marks),(E.loc .n_behind),(E.str [114,101,115,117,108,116,95,116,121,112,101])]),.asg .n_back (E.loc .n_whole)] []] [.ifs (E.cmp .eq (E.loc .n_sort) (E.loc .n_deed)) [.aug .n_at (E.int 1)] [.expr (E.call .f_law_mark [(E.loc .n_marks),(E.loc .n_spot),(E.bin .add (E.str [101,120,112,101,99,116,101,100,32]) (E.loc .n_deed))])]]]]]]]]]]]]],.ret (E.tup [(E.loc .n_pars),(E.loc .n_arrays),(E.loc .n_back),(E.loc .n_marks),(E.idx (E.loc .n_rows) (E.loc .n_at))])]
def b_law : List S := [.asg .n_pool (E.list [(E.bi .b_list [(E.slice (E.loc .n_script) none (some (E.int 20)))]),(E.int 0),(E.int 0)]),.asg .n_types (E.new .c_Types []),.asg .n_errors (E.new .c_ErrorList []),.asg .n_structure (E.meth .c_Types (E.loc .n_types) .n_new [(E.str [114,101,99,111,114,100]),(E.int 8),(E.str [77]),(E.str [84])]),.asg .n_fixed (E.meth .c_Types (E.loc .n_types) .n_new [(E.str [97,114,114,97,121]),(E.int 12),(E.str [77]),(E.str [86])]),.sattr (E.loc .n_fixed) .n_base (E.attr (E.loc .n_types) .n_integer),.sattr (E.loc .n_fixed) .n_length (E.int 3),.asg .n_arrow (E.meth .c_Types (E.loc .n_types) .n_new [(E.str [112,111,105,110,116,101,114]),(E.int 4),(E.str [77]),(E.str [80])]),.sattr (E.loc .n_arrow) .n_base (E.loc .n_structure),.asg .n_strange (E.meth .c_Types (E.loc .n_types) .n_new [(E.str [114,101,99,111,114,100]),(E.int 4),(E.str [65]),(E.str [84])]),.asg .n_away (E.meth .c_Types (E.loc .n_types) .n_new [(E.str [112,111,105,110,116,101,114]),(E.int 4),(E.str [65]),(E.str [80])]),.sattr (E.loc .n_away) .n_base (E.loc .n_strange),.asg .n_shown (E.new .c_Interface [(E.str [65]),(E.int 1)]),.sattr (E.loc .n_shown) .n_objs (E.list [(E.new .c_Obj [(E.str [84]),(E.str [116,121,112,101]),(E.loc .n_strange),(E.int 0)]),(E.new .c_Obj [(E.str [120]),(E.str [118,97,114]),(E.attr (E.loc .n_types) .n_integer),(E.int 0)]),(E.new .c_Obj [(E.str [80]),(E.str [116,121,112,101]),(E.loc .n_away),(E.int 0)])]),.asg .n_label (E.idx (E.list [(E.str [76]),(E.str [80,47,81])]) (E.call .f_law_take [(E.loc .n_pool),(E.int 2)])),.asg .n_inner (E.cmp .eq (E.call .f_law_take [(E.loc .n_pool),(E.int 2)]) (E.int 1)),.asg .n_many (E.ite (E.cmp .eq (E.call .f_law_take [(E.loc .n_pool),(E.int 6)]) (E.int 5)) (E.bin .add (E.int 28) (E.call .f_law_take [(E.loc .n_pool),(E.int 4)])) (E.int 0)),.unpk [.n_said,.n_rows] (E.call .f_law_written [(E.loc .n_pool),(E.call .f_law_row [(E.loc .n_pool),(E.cmp .gt (E.loc .n_many) (E.int 0))])]),.asg .n_rd (E.new .c_Reader [(E.loc .n_said),(E.loc .n_types),(E.loc .n_errors),E.none]),.sattr (E.loc .n_rd) .n_module (E.str [77]),.expr (E.meth .c_Scopes (E.attr (E.loc .n_rd) .n_scopes) .n_open [(E.str [])]),.forT [.n_name,.n_sort,.n_t] (E.list [(E.tup [(E.str [84]),(E.str [116,121,112,101]),(E.loc .n_structure)]),(E.tup [(E.str [86]),(E.str [116,121,112,101]),(E.loc .n_fixed)]),(E.tup [(E.str [80]),(E.str [116,121,112,101]),(E.loc .n_arrow)]),(E.tup [(E.str [87]),(E.str [116,121,112,101]),(E.attr (E.loc .n_types) .n_none)]),(E.tup [(E.str [120]),(E.str [118,97,114]),(E.attr (E.loc .n_types) .n_char)]),(E.tup [(E.str [70]),(E.str [112,114,111,99]),(E.attr (E.loc .n_types) .n_none)])]) [.expr (E.meth .c_Scopes (E.attr (E.loc .n_rd) .n_scopes) .n_insert [(E.loc .n_name),(E.loc .n_sort),(E.loc .n_t),(E.int 0)])],.asg .n_home (E.meth .c_Scopes (E.attr (E.loc .n_rd) .n_scopes) .n_insert [(E.str [65]),(E.str [109,111,100,117,108,101]),(E.attr (E.loc .n_types) .n_none),(E.int 0)]),.sattr (E.loc .n_home) .n_value (E.loc .n_shown),.asg .n_meanings (E.dict [[73,78,84,69,71,69,82],[67,72,65,82],[66,89,84,69],[83,69,84],[66,79,79,76,69,65,78],[84],[86],[80],[87],[120],[70],[84,82,85,69],[65,66,83],[65],[65,46,84],[65,46,80],[65,46,120]] [(E.tup [(E.str [116,121,112,101]),(E.attr (E.loc .n_types) .n_integer)]),(E.tup [(E.str [116,121,112,101]),(E.attr (E.loc .n_types) .n_char)]),(E.tup [(E.str [116,121,112,101]),(E.attr (E.loc .n_types) .n_byte)]),(E.tup [(E.str [116,121,112,101]),(E.attr (E.loc .n_types) .n_mask)]),(E.tup [(E.str [116,121,112,101]),(E.attr (E.loc .n_types) .n_boolean)]),(E.tup [(E.str [116,121,112,101]),(E.loc .n_structure)]),(E.tup [(E.str [116,121,112,101]),(E.loc .n_fixed)]),(E.tup [(E.str [116,121,112,101]),(E.loc .n_arrow)]),(E.tup [(E.str [114,101,99,117,114,115,105,118,101,95,116,121,112,101]),E.none]),(E.tup [(E.str [110,111,116,95,97,95,116,121,112,101]),E.none]),(E.tup [(E.str [110,111,116,95,97,95,116,121,112,101]),E.none]),(E.tup [(E.str [110,111,116,95,97,95,116,121,112,101]),E.none]),(E.tup [(E.str [110,111,116,95,97,95,116,121,112,101]),E.none]),(E.tup [(E.str [109,111,100,117,108,101]),E.none]),(E.tup [(E.str [116,121,112,101]),(E.loc .n_strange)]),(E.tup [(E.str [116,121,112,101]),(E.loc .n_away)]),(E.tup [(E.str [110,111,116,95,97,95,116,121,112,101]),E.none])]),.ifs (E.loc .n_inner) [.expr (E.meth .c_Scopes (E.attr (E.loc .n_rd) .n_scopes) .n_open [(E.str [81])]),.expr (E.meth .c_Scopes (E.attr (E.loc .n_rd) .n_scopes) .n_insert [(E.str [80]),(E.str [118,97,114]),(E.loc .n_arrow),(E.int 0)]),.sidx (E.loc .n_meanings) (E.str [80]) (E.tup [(E.str [110,111,116,95,97,95,116,121,112,101]),E.none])] [],.asg .n_there (E.bi .b_len [(E.attr (E.meth .c_Scopes (E.attr (E.loc .n_rd) .n_scopes) .n_current []) .n_order)]),.asg .n_made (E.meth .c_Types (E.loc .n_types) .n_new [(E.str [112,114,111,99]),(E.int 4),(E.str [77]),(E.loc .n_label)]),.asg .n_before (E.attr (E.loc .n_types) .n_counter),.unpk [.n_pars,.n_arrays,.n_back,.n_marks,.n_last] (E.call .f_law_due [(E.loc .n_rows),(E.loc .n_meanings),(E.attr (E.loc .n_types) .n_integer),(E.attr (E.loc .n_types) .n_none),(E.loc .n_many)]),.ifs (E.cmp .gt (E.loc .n_many) (E.int 0)) [.asg .n_told (E.bin .mul (E.list [(E.new .c_Obj [(E.str [97,48]),(E.str [112,97,114]),(E.loc .n_structure),(E.int 0)])]) (E.loc .n_many)),.expr (E.call .f_section [(E.loc .n_rd),(E.loc .n_label),(E.loc .n_told)]),.sattr (E.loc .n_made) .n_params (E.loc .n_told),.sattr (E.loc .n_made) .n_base (E.attr (E.loc .n_types) .n_none)] [.asg .n_told (E.call .f_parameters [(E.loc .n_rd),(E.loc .n_label),(E.loc .n_made)])],.ifs (E.or [(E.cmp .ne (E.attr (E.loc .n_errors) .n_rows) (E.loc .n_marks)),(E.cmp .ne (E.tup [(E.attr (E.attr (E.loc .n_rd) .n_token) .n_kind),(E.attr (E.attr (E.loc .n_rd) .n_token) .n_place)]) (E.tup [(E.idx (E.loc .n_last) (E.int 0)),(E.idx (E.loc .n_last) (E.int 2))]))]) [.ret (E.bool false)] [],.ifs (E.or [(E.cmp .ne (E.bi .b_len [(E.loc .n_told)]) (E.bin .add (E.loc .n_many) (E.bi .b_len [(E.loc .n_pars)]))),(E.cmp .ne (E.bi .b_len [(E.attr (E.loc .n_made) .n_params)]) (E.bin .add (E.loc .n_many) (E.bi .b_len [(E.loc .n_pars)]))),(E.cmp .ne (E.attr (E.attr (E.loc .n_made) .n_base) .n_number) (E.attr (E.loc .n_back) .n_number))]) [.ret (E.bool false)] [],.ifs (E.or [(E.cmp .ne (E.attr (E.loc .n_types) .n_counter) (E.bin .add (E.loc .n_before) (E.loc .n_arrays))),(E.cmp .ne (E.bi .b_len [(E.attr (E.meth .c_Scopes (E.attr (E.loc .n_rd) .n_scopes) .n_current []) .n_order)]) (E.loc .n_there))]) [.ret (E.bool false)] [],.forR .n_slot (E.bi .b_len [(E.loc .n_pars)]) [.unpk [.n_name,.n_where,.n_kind,.n_closed,.n_which,.n_t,.n_owner] (E.idx (E.loc .n_pars) (E.loc .n_slot)),.forS .n_par (E.list [(E.idx (E.loc .n_told) (E.bin .add (E.loc .n_many) (E.loc .n_slot))),(E.idx (E.attr (E.loc .n_made) .n_params) (E.bin .add (E.loc .n_many) (E.loc .n_slot)))]) [.ifs (E.cmp .ne (E.tup [(E.attr (E.loc .n_par) .n_name),(E.attr (E.loc .n_par) .n_place),(E.attr (E.loc .n_par) .n_kind),(E.attr (E.loc .n_par) .n_readonly)]) (E.tup [(E.loc .n_name),(E.loc .n_where),(E.loc .n_kind),(E.loc .n_closed)])) [.ret (E.bool false)] [],.ifs (E.cmp .ne (E.tup [(E.attr (E.loc .n_par) .n_slot),(E.attr (E.loc .n_par) .n_level),(E.attr (E.loc .n_par) .n_module),(E.attr (E.loc .n_par) .n_isparam)]) (E.tup [(E.bin .add (E.loc .n_many) (E.loc .n_slot)),(E.ite (E.loc .n_inner) (E.int 1) (E.int 0)),(E.str [77]),(E.bool true)])) [.ret (E.bool false)] [],.asg .n_seen (E.attr (E.loc .n_par) .n_type),.ifs (E.cmp .gt (E.loc .n_which) (E.int 0)) [.ifs (E.cmp .ne (E.tup [(E.attr (E.loc .n_seen) .n_form),(E.attr (E.loc .n_seen) .n_length),(E.attr (E.loc .n_seen) .n_number),(E.attr (E.loc .n_seen) .n_module),(E.attr (E.loc .n_seen) .n_label)]) (E.tup [(E.str [97,114,114,97,121]),(E.neg 1),(E.bin .add (E.loc .n_before) (E.loc .n_which)),(E.str [77]),(E.bin .add (E.bin .add (E.loc .n_label) (E.str [40])) (E.loc .n_owner))])) [.ret (E.bool false)] [],.asg .n_seen (E.attr (E.loc .n_seen) .n_base)] [],.ifs (E.cmp .ne (E.attr (E.loc .n_seen) .n_number) (E.attr (E.loc .n_t) .n_number)) [.ret (E.bool false)] []]],.ret (E.bool true)]
def Fn.params : Fn → List N
  | .f_Interface_find => [.n_self,.n_name]
  | .f_ErrorList_mark => [.n_self,.n_place,.n_code]
  | .f_Scopes_find => [.n_self,.n_name]
  | .f_Token_init => [.n_self,.n_kind,.n_value,.n_place]
  | .f_is_letter => [.n_char]
  | .f_is_digit => [.n_char]
  | .f_Scanner_char => [.n_self,.n_ahead]
  | .f_Scanner_remark => [.n_self]
  | .f_Scanner_skip => [.n_self]
  | .f_Scanner_word => [.n_self,.n_begun]
  | .f_is_hex_digit => [.n_char]
  | .f_digits_value => [.n_digits,.n_base,.n_most]
  | .f_Scanner_whole => [.n_self,.n_begun,.n_value,.n_most]
  | .f_Scanner_numeral => [.n_self,.n_begun]
  | .f_Scanner_symbol => [.n_self]
  | .f_Scanner_take => [.n_self]
  | .f_Reader_step => [.n_self]
  | .f_Reader_skip => [.n_self,.n_kind]
  | .f_Reader_mark => [.n_self,.n_code]
  | .f_Reader_expect => [.n_self,.n_kind]
  | .f_Reader_at => [.n_self,.n_kind]
  | .f_Reader_name => [.n_self]
  | .f_qualident => [.n_rd]
  | .f_param_words => [.n_par]
  | .f_is_scalar => [.n_t]
  | .f_Type_init => [.n_self,.n_number,.n_form,.n_size]
  | .f_Obj_init => [.n_self,.n_name,.n_kind,.n_type_of,.n_place]
  | .f_Interface_init => [.n_self,.n_name,.n_key]
  | .f_Types_new => [.n_self,.n_form,.n_size,.n_module,.n_label]
  | .f_Types_init => [.n_self]
  | .f_plain_names => [.n_rd]
  | .f_type_name => [.n_rd]
  | .f_formal_type => [.n_rd,.n_label]
  | .f_words_of => [.n_params]
  | .f_section => [.n_rd,.n_label,.n_found]
  | .f_result_of => [.n_rd]
  | .f_parameters => [.n_rd,.n_label,.n_made]
  | .f_ErrorList_init => [.n_self]
  | .f_keywords => []
  | .f_Scanner_init => [.n_self,.n_source,.n_errors]
  | .f_Scope_init => [.n_self,.n_level,.n_label]
  | .f_Scopes_init => [.n_self,.n_types,.n_module]
  | .f_Scopes_open => [.n_self,.n_label]
  | .f_Scopes_current => [.n_self]
  | .f_Scopes_add => [.n_self,.n_obj]
  | .f_Scopes_insert => [.n_self,.n_name,.n_kind,.n_t,.n_place]
  | .f_std_functions => []
  | .f_std_procedures => []
  | .f_fill => [.n_scopes]
  | .f_Reader_init => [.n_self,.n_source,.n_types,.n_errors,.n_importer]
  | .f_law_take => [.n_pool,.n_most]
  | .f_law_named => [.n_figure]
  | .f_law_loose => [.n_pool]
  | .f_law_of_type => [.n_pool]
  | .f_law_part => [.n_pool]
  | .f_law_formal => [.n_pool]
  | .f_law_row => [.n_pool,.n_alone]
  | .f_law_written => [.n_pool,.n_row]
  | .f_law_mark => [.n_marks,.n_spot,.n_code]
  | .f_law_meaning => [.n_rows,.n_at,.n_meanings,.n_marks]
  | .f_law_due => [.n_rows,.n_meanings,.n_whole,.n_none,.n_many]
  | .f_law => [.n_script]
def Fn.dflts : Fn → List V
  | .f_Scanner_char => [V.int 0]
  | .f_Types_new => [V.str [],V.str []]
  | .f_Reader_init => [V.none]
  | _ => []
def Fn.body : Fn → List S
  | .f_Interface_find => b_Interface_find
  | .f_ErrorList_mark => b_ErrorList_mark
  | .f_Scopes_find => b_Scopes_find
  | .f_Token_init => b_Token_init
  | .f_is_letter => b_is_letter
  | .f_is_digit => b_is_digit
  | .f_Scanner_char => b_Scanner_char
  | .f_Scanner_remark => b_Scanner_remark
  | .f_Scanner_skip => b_Scanner_skip
  | .f_Scanner_word => b_Scanner_word
  | .f_is_hex_digit => b_is_hex_digit
  | .f_digits_value => b_digits_value
  | .f_Scanner_whole => b_Scanner_whole
  | .f_Scanner_numeral => b_Scanner_numeral
  | .f_Scanner_symbol => b_Scanner_symbol
  | .f_Scanner_take => b_Scanner_take
  | .f_Reader_step => b_Reader_step
  | .f_Reader_skip => b_Reader_skip
  | .f_Reader_mark => b_Reader_mark
  | .f_Reader_expect => b_Reader_expect
  | .f_Reader_at => b_Reader_at
  | .f_Reader_name => b_Reader_name
  | .f_qualident => b_qualident
  | .f_param_words => b_param_words
  | .f_is_scalar => b_is_scalar
  | .f_Type_init => b_Type_init
  | .f_Obj_init => b_Obj_init
  | .f_Interface_init => b_Interface_init
  | .f_Types_new => b_Types_new
  | .f_Types_init => b_Types_init
  | .f_plain_names => b_plain_names
  | .f_type_name => b_type_name
  | .f_formal_type => b_formal_type
  | .f_words_of => b_words_of
  | .f_section => b_section
  | .f_result_of => b_result_of
  | .f_parameters => b_parameters
  | .f_ErrorList_init => b_ErrorList_init
  | .f_keywords => b_keywords
  | .f_Scanner_init => b_Scanner_init
  | .f_Scope_init => b_Scope_init
  | .f_Scopes_init => b_Scopes_init
  | .f_Scopes_open => b_Scopes_open
  | .f_Scopes_current => b_Scopes_current
  | .f_Scopes_add => b_Scopes_add
  | .f_Scopes_insert => b_Scopes_insert
  | .f_std_functions => b_std_functions
  | .f_std_procedures => b_std_procedures
  | .f_fill => b_fill
  | .f_Reader_init => b_Reader_init
  | .f_law_take => b_law_take
  | .f_law_named => b_law_named
  | .f_law_loose => b_law_loose
  | .f_law_of_type => b_law_of_type
  | .f_law_part => b_law_part
  | .f_law_formal => b_law_formal
  | .f_law_row => b_law_row
  | .f_law_written => b_law_written
  | .f_law_mark => b_law_mark
  | .f_law_meaning => b_law_meaning
  | .f_law_due => b_law_due
  | .f_law => b_law
section
abbrev Led := List (Addr × Obj)
abbrev tupObj (vs : List Value) : Obj := { cls := .type "tuple",data := .seq vs.toArray }
mutual
inductive VR (l : Led) : V → Value → Prop
  | none : VR l .none .none
  | bool (b : Bool) : VR l (.bool b) (.bool b)
  | int (i : Int) (t : Tok) : VR l (.int i) (.int i t)
  | str (s : Tx) (t : Tok) : VR l (.str s) (.str (tx s) t)
  | ref (a : Addr) : VR l (.ref a) (.ref a)
  | tup {xs : List V} {a : Addr} {vs : List Value} : (a,tupObj vs) ∈ l → VRs l xs vs → VR l (.tup xs) (.ref a)
inductive VRs (l : Led) : List V → List Value → Prop
  | nil : VRs l [] []
  | cons {x : V} {v : Value} {xs : List V} {vs : List Value} : VR l x v → VRs l xs vs → VRs l (x :: xs) (v :: vs)
end
def mutObj (o : Obj) : Bool := o.cls == .type "list" || o.cls == .type "dict"
def Le (l l' : Led) : Prop := ∀ p ∈ l,mutObj p.2 = false → p ∈ l'
theorem Le.refl (l : Led) : Le l l := fun _ h _ => h
theorem Le.trans {l l' l'' : Led} (h : Le l l') (h' : Le l' l'') : Le l l'' := fun p hp hm => h' p (h p hp hm) hm
theorem Le.cons (p : Addr × Obj) (l : Led) : Le l (p :: l) := fun _ h _ => .tail _ h
theorem Le.append (q l : Led) : Le l (q ++ l) := fun _ h _ => List.mem_append_right _ h
theorem mut_tup (vs : List Value) : mutObj (tupObj vs) = false := by
  simp only [mutObj,Bool.or_eq_false_iff]; exact ⟨by decide,by decide⟩
def LeT (l l' : Led) : Prop := ∀ p ∈ l,p.2.cls = .type "tuple" → p ∈ l'
theorem Le.t {l l' : Led} (h : Le l l') : LeT l l' := fun p hp hc => h p hp (by
  simp only [mutObj,hc,Bool.or_eq_false_iff]; exact ⟨by decide,by decide⟩)
theorem LeT.trans {l l' l'' : Led} (h : LeT l l') (h' : LeT l' l'') : LeT l l'' := fun p hp hm => h' p (h p hp hm) hm
mutual
theorem VR.monoT {l l' : Led} (h : LeT l l') : ∀ {x : V} {v : Value},VR l x v → VR l' x v
  | _,_,.none => .none
  | _,_,.bool b => .bool b
  | _,_,.int i t => .int i t
  | _,_,.str s t => .str s t
  | _,_,.ref a => .ref a
  | _,_,.tup hm hs => .tup (h _ hm rfl) (hs.monoT h)
theorem VRs.monoT {l l' : Led} (h : LeT l l') : ∀ {xs : List V} {vs : List Value},VRs l xs vs → VRs l' xs vs
  | _,_,.nil => .nil
  | _,_,.cons a b => .cons (a.monoT h) (b.monoT h)
end
theorem VR.mono {l l' : Led} (h : Le l l') {x : V} {v : Value} (a : VR l x v) : VR l' x v := a.monoT h.t
theorem VRs.mono {l l' : Led} (h : Le l l') {x : List V} {v : List Value} (a : VRs l x v) : VRs l' x v := a.monoT h.t
theorem VRs.length {l : Led} : ∀ {xs : List V} {vs : List Value},VRs l xs vs → vs.length = xs.length
  | _,_,.nil => rfl
  | _,_,.cons _ b => by simp [b.length]
theorem VRs.append {l : Led} : ∀ {xs ys : List V} {vs us : List Value},VRs l xs vs → VRs l ys us → VRs l (xs ++ ys) (vs ++ us)
  | _,_,_,_,.nil,h => h
  | _,_,_,_,.cons a b,h => .cons a (b.append h)
theorem VRs.get {l : Led} : ∀ {xs : List V} {vs : List Value},VRs l xs vs → ∀ {i : Nat} {x : V},xs[i]? = some x → ∃ v,vs[i]? = some v ∧ VR l x v
  | _,_,.nil,_,_,h => by simp at h
  | _,_,.cons a b,0,_,h => by simp at h; subst h; exact ⟨_,rfl,a⟩
  | _,_,.cons a b,i + 1,_,h => by simpa using b.get (by simpa using h)
theorem VRs.get' {l : Led} : ∀ {xs : List V} {vs : List Value},VRs l xs vs → ∀ {i : Nat} {v : Value},vs[i]? = some v → ∃ x,xs[i]? = some x ∧ VR l x v
  | _,_,.nil,_,_,h => by simp at h
  | _,_,.cons a b,0,_,h => by simp at h; subst h; exact ⟨_,rfl,a⟩
  | _,_,.cons a b,i + 1,_,h => by simpa using b.get' (by simpa using h)
theorem VRs.take {l : Led} : ∀ {xs : List V} {vs : List Value},VRs l xs vs → ∀ n,VRs l (xs.take n) (vs.take n)
  | _,_,.nil,_ => by simpa using VRs.nil
  | _,_,.cons _ _,0 => .nil
  | _,_,.cons a b,n + 1 => .cons a (b.take n)
theorem VRs.drop {l : Led} : ∀ {xs : List V} {vs : List Value},VRs l xs vs → ∀ n,VRs l (xs.drop n) (vs.drop n)
  | _,_,.nil,n => by simpa using VRs.nil
  | _,_,.cons a b,0 => .cons a b
  | _,_,.cons a b,n + 1 => b.drop n
theorem VRs.set {l : Led} : ∀ {xs : List V} {vs : List Value},VRs l xs vs → ∀ {n : Nat} {x : V} {v : Value},VR l x v → VRs l (xs.set n x) (vs.set n v)
  | _,_,.nil,_,_,_,_ => .nil
  | _,_,.cons _ b,0,_,_,h => .cons h b
  | _,_,.cons a b,n + 1,_,_,h => .cons a (b.set h)
theorem VRs.snoc {l : Led} {xs : List V} {vs : List Value} {x : V} {v : Value} (h : VRs l xs vs) (k : VR l x v) : VRs l (xs ++ [x]) (vs ++ [v]) := h.append (.cons k .nil)
inductive ER (l : Led) : List (N × V) → List DictEntry → Prop
  | nil : ER l [] []
  | cons {n : N} {x : V} {h : Int} {t : Tok} {v : Value} {m : List (N × V)} {es : List DictEntry} : VR l x v → ER l m es → ER l ((n,x) :: m) (⟨h,.str n.str t,v⟩ :: es)
inductive KR {K K' : Type} (f : K → K') (l : Led) : List (K × V) → List (K' × Value) → Prop
  | nil : KR f l [] []
  | cons {k : K} {x : V} {v : Value} {m : List (K × V)} {es : List (K' × Value)} : VR l x v → KR f l m es → KR f l ((k,x) :: m) ((f k,v) :: es)
theorem ER.monoT {l l' : Led} (h : LeT l l') {m : List (N × V)} {es : List DictEntry} (e : ER l m es) : ER l' m es := by
  induction e with
  | nil => exact .nil
  | cons a _ ih => exact .cons (a.monoT h) ih
theorem KR.monoT {K K' : Type} {f : K → K'} {l l' : Led} (h : LeT l l') {m : List (K × V)} {es : List (K' × Value)} (e : KR f l m es) : KR f l' m es := by
  induction e with
  | nil => exact .nil
  | cons a _ ih => exact .cons (a.monoT h) ih
theorem ER.mono {l l' : Led} (h : Le l l') {m : List (N × V)} {es : List DictEntry} (e : ER l m es) : ER l' m es := e.monoT h.t
theorem KR.mono {K K' : Type} {f : K → K'} {l l' : Led} (h : Le l l') {m : List (K × V)} {es : List (K' × Value)} (e : KR f l m es) : KR f l' m es := e.monoT h.t
section
variable (prog : Program) (w : World)
def OR (own : Addr → Option Addr) (l : Led) (g : Heap) (a : Addr) : O → Prop
  | .inst c m => ∃ d es n,(a,instObj c.addr d) ∈ l ∧ (d,dictOf es n) ∈ l ∧ own d = some a ∧ ER l m es
  | .list xs => ∃ vs n,(a,listOf vs.toArray n) ∈ l ∧ VRs l xs vs
  | .sd m => ∃ o kvs,(a,o) ∈ l ∧ o.IsDictOf (strKind prog w) kvs ∧ KR tx l m kvs ∧ (a == sysModules) = false
  | .idt m => ∃ o kvs,(a,o) ∈ l ∧ o.IsDictOf (intKind prog w) kvs ∧ KR id l m kvs ∧ (a == sysModules) = false
  | .td k => ∃ (o : Obj) (es : Array DictEntry) (ep : Nat) (xs : List (List Str × Addr × Value)),(a,o) ∈ l ∧ o.ExactDict ∧ o.data = .dict es ep ∧ es.toList = xs.map (entryOfKey (tupleKind (strKind prog w))) ∧ (xs.map (·.1)).Nodup ∧
      (∀ x ∈ xs,∃ ok,(x.2.1,ok) ∈ l ∧ TupKeyObj (strKind prog w) x.1 ok) ∧ xs.length ≤ k
  | .ext ns => ∃ vs,g.IsList a vs.toArray ∧ IntsAre vs ns
structure Rep0 (own : Addr → Option Addr) (l : Led) (g : Heap) (H : AH) : Prop where
  nodup : (l.map (·.1)).Nodup
  obj : ∀ a o,H a = some o → OR prog w own l g a o
  ownin : ∀ d a,own d = some a → d ∈ l.map (·.1) ∧ H d = none
def Rep (l : Led) (g : Heap) (H : AH) : Prop := ∃ own,Rep0 prog w own l g H
end
theorem VR.handed {l : Led} {x : V} {v : Value} (h : VR l x v) : handedIn v = true := by cases h <;> rfl
def upd (l : Led) (d : Addr) (o' : Obj) : Led := l.map fun p => if p.1 = d then (d,o') else p
theorem upd_fst (l : Led) (d : Addr) (o' : Obj) : (upd l d o').map (·.1) = l.map (·.1) := by
  simp only [upd,List.map_map]
  refine List.map_congr_left fun p _ => ?_
  by_cases h : p.1 = d <;> simp [h]
theorem upd_other {l : Led} {d : Addr} {o' : Obj} {p : Addr × Obj} (hp : p ∈ l) (hne : p.1 ≠ d) : p ∈ upd l d o' := List.mem_map.mpr ⟨p,hp,by simp [hne]⟩
theorem upd_self {l : Led} {d : Addr} {o o' : Obj} (hp : (d,o) ∈ l) : (d,o') ∈ upd l d o' := List.mem_map.mpr ⟨_,hp,by simp⟩
theorem uniq : ∀ {l : Led},(l.map (·.1)).Nodup → ∀ {a : Addr} {o o' : Obj},(a,o) ∈ l → (a,o') ∈ l → o = o'
  | [],_,_,_,_,h,_ => nomatch h
  | p :: r,hn,a,o,o',h,h' => by
    rw [List.map_cons,List.nodup_cons] at hn
    rcases List.mem_cons.mp h with e | e <;> rcases List.mem_cons.mp h' with e' | e'
    · exact congrArg Prod.snd (e.trans e'.symm)
    · exact absurd (List.mem_map.mpr ⟨(a,o'),e',by rw [← e]⟩) hn.1
    · exact absurd (List.mem_map.mpr ⟨(a,o),e,by rw [← e']⟩) hn.1
    · exact uniq hn.2 e e'
theorem Upd_of : ∀ {l : Led},(l.map (·.1)).Nodup → ∀ {d : Addr} {o : Obj} (o' : Obj),(d,o) ∈ l → Upd d o o' l (upd l d o')
  | [],_,_,_,_,h => nomatch h
  | p :: r,hn,d,o,o',h => by
    rw [List.map_cons,List.nodup_cons] at hn
    by_cases e : p.1 = d
    · have hr : ∀ q ∈ r,q.1 ≠ d := fun q hq x => hn.1 (List.mem_map.mpr ⟨q,hq,x.trans e.symm⟩)
      have hr' : upd r d o' = r := by
        refine (List.map_congr_left fun q hq => ?_).trans (List.map_id r)
        simp [hr q hq]
      have hp : p = (d,o) := by
        rcases List.mem_cons.mp h with x | x
        · exact x.symm
        · exact absurd rfl (hr _ x)
      subst hp
      have : upd ((d,o) :: r) d o' = (d,o') :: r := by
        show (if d = d then (d,o') else (d,o)) :: upd r d o' = _
        rw [if_pos rfl,hr']
      rw [this]
      exact .head hr
    · have : upd (p :: r) d o' = p :: upd r d o' := by
        show (if p.1 = d then (d,o') else p) :: upd r d o' = _
        rw [if_neg e]
      rw [this]
      refine .tail e (Upd_of hn.2 o' ?_)
      rcases List.mem_cons.mp h with x | x
      · exact absurd (congrArg Prod.fst x).symm e
      · exact x
theorem Le.upd {l : Led} (hn : (l.map (·.1)).Nodup) {d : Addr} {o : Obj} (o' : Obj) (h : (d,o) ∈ l) (hm : mutObj o = true) : Le l (Mine.upd l d o') := fun p hp hf => by
  refine upd_other hp fun e => ?_
  have : o = p.2 := uniq hn h (by rw [← e]; exact hp)
  rw [this,hf] at hm; cases hm
theorem mut_list (vs : Array Value) (n : Nat) : mutObj (listOf vs n) = true := by simp [mutObj]
theorem mut_dict {o : Obj} (h : o.cls = .type "dict") : mutObj o = true := by simp [mutObj,h]
section
variable {prog : Program} {w : World}
theorem OR.keepT {own own' : Addr → Option Addr} {l l' : Led} {g g' : Heap} {b : Addr} {o : O} (h : OR prog w own l g b o) (hsub : ∀ p ∈ l,(p.1 = b ∨ own p.1 = some b) → p ∈ l') (hle : LeT l l')
    (ho : ∀ e x,own e = some x → own' e = some x) (hg : ∀ a x,g.get? a = some x → g'.get? a = some x) : OR prog w own' l' g' b o := by
  cases o with
  | inst c m =>
    obtain ⟨d,es,n,h1,h2,h3,h4⟩ := h
    exact ⟨d,es,n,hsub _ h1 (.inl rfl),hsub _ h2 (.inr h3),ho _ _ h3,h4.monoT hle⟩
  | list xs =>
    obtain ⟨vs,n,h1,h2⟩ := h
    exact ⟨vs,n,hsub _ h1 (.inl rfl),h2.monoT hle⟩
  | sd m =>
    obtain ⟨o,kvs,h1,h2,h3,h4⟩ := h
    exact ⟨o,kvs,hsub _ h1 (.inl rfl),h2,h3.monoT hle,h4⟩
  | idt m =>
    obtain ⟨o,kvs,h1,h2,h3,h4⟩ := h
    exact ⟨o,kvs,hsub _ h1 (.inl rfl),h2,h3.monoT hle,h4⟩
  | td k =>
    obtain ⟨o,es,ep,xs,h1,h2,h3,h4,h5,h6,h7⟩ := h
    refine ⟨o,es,ep,xs,hsub _ h1 (.inl rfl),h2,h3,h4,h5,fun x hx => ?_,h7⟩
    obtain ⟨ok,hm,tk⟩ := h6 x hx
    exact ⟨ok,hle _ hm tk.1,tk⟩
  | ext ns =>
    obtain ⟨vs,⟨o,h1,h2⟩,h3⟩ := h
    exact ⟨vs,⟨o,hg _ _ h1,h2⟩,h3⟩
theorem OR.keep {own own' : Addr → Option Addr} {l l' : Led} {g g' : Heap} {b : Addr} {o : O} (h : OR prog w own l g b o) (hsub : ∀ p ∈ l,(p.1 = b ∨ own p.1 = some b) → p ∈ l') (hle : Le l l')
    (ho : ∀ e x,own e = some x → own' e = some x) (hg : ∀ a x,g.get? a = some x → g'.get? a = some x) : OR prog w own' l' g' b o := h.keepT hsub hle.t ho hg
theorem OR.addr {own : Addr → Option Addr} {l : Led} {g : Heap} {b : Addr} {o : O} (h : OR prog w own l g b o) : b ∈ l.map (·.1) ∨ ∃ x,g.get? b = some x := by
  cases o with
  | inst c m => obtain ⟨d,es,n,h1,_⟩ := h; exact .inl (List.mem_map.mpr ⟨_,h1,rfl⟩)
  | list xs => obtain ⟨vs,n,h1,_⟩ := h; exact .inl (List.mem_map.mpr ⟨_,h1,rfl⟩)
  | sd m => obtain ⟨o,kvs,h1,_⟩ := h; exact .inl (List.mem_map.mpr ⟨_,h1,rfl⟩)
  | idt m => obtain ⟨o,kvs,h1,_⟩ := h; exact .inl (List.mem_map.mpr ⟨_,h1,rfl⟩)
  | td k => obtain ⟨o,es,ep,xs,h1,_⟩ := h; exact .inl (List.mem_map.mpr ⟨_,h1,rfl⟩)
  | ext ns => obtain ⟨vs,⟨o,h1,_⟩,_⟩ := h; exact .inr ⟨_,h1⟩
theorem Rep0.fresh {own : Addr → Option Addr} {l : Led} {g : Heap} {H : AH} (R : Rep0 prog w own l g H) {c : Addr} (h : c ∉ l.map (·.1)) (hg : g.get? c = none) : H c = none := by
  cases e : H c with
  | none => rfl
  | some o =>
    rcases (R.obj c o e).addr with x | ⟨x,y⟩
    · exact absurd x h
    · rw [hg] at y; cases y
theorem Rep0.change {own : Addr → Option Addr} {l : Led} {g : Heap} {H : AH} (R : Rep0 prog w own l g H) {a : Addr} {ox o2 : O} {o o' : Obj} (ha : H a = some ox) (hm : (a,o) ∈ l) (hmut : mutObj o = true)
    (h2 : OR prog w own (upd l a o') g a o2) : Rep0 prog w own (upd l a o') g (put H a o2) := by
  have ne : ∀ b,own a ≠ some b := fun b e => by have := (R.ownin a b e).2; rw [ha] at this; cases this
  refine ⟨by rw [upd_fst]; exact R.nodup,fun b ob hb => ?_,fun d b e => ?_⟩
  · by_cases hba : b = a
    · subst hba; rw [put_apply,if_pos rfl] at hb; cases hb; exact h2
    · rw [put_apply,if_neg hba] at hb
      refine (R.obj b ob hb).keep (fun p hp hc => upd_other hp fun e => ?_) (Le.upd R.nodup o' hm hmut) (fun _ _ e => e) fun _ _ e => e
      rcases hc with hc | hc
      · exact hba (hc.symm.trans e)
      · rw [e] at hc; exact ne _ hc
  · have := R.ownin d b e
    refine ⟨by rw [upd_fst]; exact this.1,?_⟩
    rw [put_apply,if_neg fun x => by rw [x] at e; exact ne _ e]; exact this.2
theorem Rep0.changeI {own : Addr → Option Addr} {l : Led} {g : Heap} {H : AH} (R : Rep0 prog w own l g H) {a d : Addr} {c : Cls} {m m' : List (N × V)} {es es' : List DictEntry} {n n' : Nat} (ha : H a = some (.inst c m))
    (h1 : (a,instObj c.addr d) ∈ l) (h2 : (d,dictOf es n) ∈ l) (h3 : own d = some a) (h4 : ER (upd l d (dictOf es' n')) m' es') : Rep0 prog w own (upd l d (dictOf es' n')) g (put H a (.inst c m')) := by
  have hd : H d = none := (R.ownin d a h3).2
  have had : a ≠ d := fun e => by rw [e,hd] at ha; cases ha
  refine ⟨by rw [upd_fst]; exact R.nodup,fun b ob hb => ?_,fun e b he => ?_⟩
  · by_cases hba : b = a
    · subst hba; rw [put_apply,if_pos rfl] at hb; cases hb
      exact ⟨d,es',n',upd_other h1 had,upd_self h2,h3,h4⟩
    · rw [put_apply,if_neg hba] at hb
      refine (R.obj b ob hb).keep (fun p hp hc => upd_other hp fun e => ?_) (Le.upd R.nodup _ h2 (mut_dict rfl)) (fun _ _ e => e) fun _ _ e => e
      rcases hc with hc | hc
      · rw [← hc,e,hd] at hb; cases hb
      · rw [e,h3] at hc; exact hba (Option.some.inj hc).symm
  · have := R.ownin e b he
    refine ⟨by rw [upd_fst]; exact this.1,?_⟩
    rw [put_apply,if_neg fun x => by rw [x,ha] at this; cases this.2]; exact this.2
theorem Rep0.new {own : Addr → Option Addr} {l : Led} {g : Heap} {H : AH} (R : Rep0 prog w own l g H) {c : Addr} {o : Obj} {ox : O} (hc : c ∉ l.map (·.1)) (h : OR prog w own ((c,o) :: l) g c ox) : Rep0 prog w own ((c,o) :: l) g (put H c ox) := by
  refine ⟨by rw [List.map_cons,List.nodup_cons]; exact ⟨hc,R.nodup⟩,fun b ob hb => ?_,fun e b he => ?_⟩
  · by_cases hbc : b = c
    · subst hbc; rw [put_apply,if_pos rfl] at hb; cases hb; exact h
    · rw [put_apply,if_neg hbc] at hb
      exact (R.obj b ob hb).keep (fun p hp _ => .tail _ hp) (Le.cons _ _) (fun _ _ e => e) fun _ _ e => e
  · have := R.ownin e b he
    refine ⟨by rw [List.map_cons]; exact .tail _ this.1,?_⟩
    rw [put_apply,if_neg fun x : e = c => hc (x ▸ this.1)]; exact this.2
theorem Rep0.more {own : Addr → Option Addr} {l : Led} {g : Heap} {H : AH} (R : Rep0 prog w own l g H) {c : Addr} {o : Obj} (hc : c ∉ l.map (·.1)) : Rep0 prog w own ((c,o) :: l) g H :=
  ⟨by rw [List.map_cons,List.nodup_cons]; exact ⟨hc,R.nodup⟩,fun b ob hb => (R.obj b ob hb).keep (fun p hp _ => .tail _ hp) (Le.cons _ _) (fun _ _ e => e) fun _ _ e => e,
    fun e b he => ⟨by rw [List.map_cons]; exact .tail _ (R.ownin e b he).1,(R.ownin e b he).2⟩⟩
def isIt (o : Obj) : Bool := match o.cls with
  | .type n => n != "list" && n != "dict" && n != "tuple"
  | _ => false
theorem OR.notIt {own : Addr → Option Addr} {l : Led} {g : Heap} {b : Addr} {x : O} (h : OR prog w own l g b x) (hn : (l.map (·.1)).Nodup) {o : Obj} (hm : (b,o) ∈ l) (hi : isIt o = true) (hg : g.get? b = none) : False := by
  cases x with
  | inst c m => obtain ⟨d,es,n,h1,_⟩ := h; have := uniq hn h1 hm; subst this; cases hi
  | list xs => obtain ⟨vs,n,h1,_⟩ := h; have := uniq hn h1 hm; subst this; simp [isIt] at hi
  | sd m => obtain ⟨o',kvs,h1,⟨_,_,h2,_⟩,_⟩ := h; have := uniq hn h1 hm; subst this; rw [isIt,h2.1] at hi; revert hi; decide
  | idt m => obtain ⟨o',kvs,h1,⟨_,_,h2,_⟩,_⟩ := h; have := uniq hn h1 hm; subst this; rw [isIt,h2.1] at hi; revert hi; decide
  | td k => obtain ⟨o',es,ep,xs,h1,h2,_⟩ := h; have := uniq hn h1 hm; subst this; rw [isIt,h2.1] at hi; revert hi; decide
  | ext ns => obtain ⟨vs,⟨o',h1,_⟩,_⟩ := h; rw [hg] at h1; cases h1
theorem Rep0.turnIt {own : Addr → Option Addr} {l : Led} {g : Heap} {H : AH} (R : Rep0 prog w own l g H) {I : Addr} {o o' : Obj} (hm : (I,o) ∈ l) (hi : isIt o = true) (hg : g.get? I = none) (hT : LeT l (upd l I o')) : Rep0 prog w own (upd l I o') g H := by
  have hH : H I = none := by
    cases e : H I with
    | none => rfl
    | some x => exact ((R.obj I x e).notIt R.nodup hm hi hg).elim
  refine ⟨by rw [upd_fst]; exact R.nodup,fun b ob hb => ?_,fun d b e => ⟨by rw [upd_fst]; exact (R.ownin d b e).1,(R.ownin d b e).2⟩⟩
  have hb' := R.obj b ob hb
  have hbI : b ≠ I := fun e => by rw [e,hH] at hb; cases hb
  cases ob with
  | inst c m' =>
    obtain ⟨d,es,n,h1,h2,h3,h4⟩ := hb'
    have hd : d ≠ I := fun e => by
      subst e
      have := uniq R.nodup h2 hm; subst this; simp [isIt] at hi
    exact ⟨d,es,n,upd_other h1 hbI,upd_other h2 hd,h3,h4.monoT hT⟩
  | list xs => obtain ⟨vs,n,h1,h2⟩ := hb'; exact ⟨vs,n,upd_other h1 hbI,h2.monoT hT⟩
  | sd m' => obtain ⟨o,kvs,h1,h2,h3,h4⟩ := hb'; exact ⟨o,kvs,upd_other h1 hbI,h2,h3.monoT hT,h4⟩
  | idt m' => obtain ⟨o,kvs,h1,h2,h3,h4⟩ := hb'; exact ⟨o,kvs,upd_other h1 hbI,h2,h3.monoT hT,h4⟩
  | td k =>
    obtain ⟨o,es,ep,xs,h1,h2,h3,h4,h5,h6,h7⟩ := hb'
    exact ⟨o,es,ep,xs,upd_other h1 hbI,h2,h3,h4,h5,fun x hx => let ⟨ok,hm',tk⟩ := h6 x hx; ⟨ok,hT _ hm' tk.1,tk⟩,h7⟩
  | ext ns => exact hb'
theorem LeT.updIt {l : Led} (hn : (l.map (·.1)).Nodup) {I : Addr} {o : Obj} (o' : Obj) (hm : (I,o) ∈ l) (hi : isIt o = true) : LeT l (upd l I o') := fun p hp hc => by
  refine upd_other hp fun e => ?_
  have : o = p.2 := uniq hn hm (by rw [← e]; exact hp)
  rw [this,isIt,hc] at hi; revert hi; decide
theorem Rep0.newI {own : Addr → Option Addr} {l : Led} {g : Heap} {H : AH} (R : Rep0 prog w own l g H) {a d : Addr} {c : Cls} {n : Nat} (ha : a ∉ l.map (·.1)) (hd : d ∉ l.map (·.1)) (had : a ≠ d) (hH : H d = none) :
    Rep0 prog w (put own d a) ((a,instObj c.addr d) :: (d,dictOf [] n) :: l) g (put H a (.inst c [])) := by
  refine ⟨?_,fun b ob hb => ?_,fun e b he => ?_⟩
  · rw [List.map_cons,List.map_cons,List.nodup_cons,List.nodup_cons]
    refine ⟨?_,hd,R.nodup⟩
    intro h
    rcases List.mem_cons.mp h with h | h
    · exact had h
    · exact ha h
  · by_cases hba : b = a
    · subst hba; rw [put_apply,if_pos rfl] at hb; cases hb
      exact ⟨d,[],n,.head _,.tail _ (.head _),by rw [put_apply,if_pos rfl],.nil⟩
    · rw [put_apply,if_neg hba] at hb
      refine (R.obj b ob hb).keep (fun p hp _ => .tail _ (.tail _ hp)) (fun p hp _ => .tail _ (.tail _ hp)) (fun e x he => ?_) fun _ _ e => e
      rw [put_apply,if_neg fun q : e = d => hd (q ▸ (R.ownin e x he).1)]; exact he
  · rw [put_apply] at he
    by_cases hed : e = d
    · subst hed
      refine ⟨by simp,?_⟩
      rw [put_apply,if_neg (Ne.symm had)]; exact hH
    · rw [if_neg hed] at he
      have := R.ownin e b he
      refine ⟨by rw [List.map_cons,List.map_cons]; exact .tail _ (.tail _ this.1),?_⟩
      rw [put_apply,if_neg fun x : e = a => ha (x ▸ this.1)]; exact this.2
end
def Same (s0 s : Shared) : Prop := s.gens = s0.gens ∧ s.drawn = s0.drawn ∧ s.os = s0.os
theorem Same.refl (s : Shared) : Same s s := ⟨rfl,rfl,rfl⟩
structure St (prog : Program) (w : World) (g0 g : Heap) (L : Addr) (m : Str → Option Value) (H : AH) (l : Led) (s0 s : Shared) : Prop where
  fr : Fr g L s.heap m
  nw : News g L s.heap l
  rep : Rep prog w l g0 H
  sub : ∀ b o,g0.get? b = some o → g.get? b = some o
  same : Same s0 s
def LR (l : Led) (ρ : Rho) (m : Str → Option Value) : Prop := ∀ x v,ρ x = some v → ∃ u,m x.str = some u ∧ VR l v u
theorem LR.monoT {l l' : Led} {ρ : Rho} {m : Str → Option Value} (h : LR l ρ m) (k : LeT l l') : LR l' ρ m := fun x v e => let ⟨u,a,b⟩ := h x v e; ⟨u,a,b.monoT k⟩
theorem LR.mono {l l' : Led} {ρ : Rho} {m : Str → Option Value} (h : LR l ρ m) (k : Le l l') : LR l' ρ m := fun x v e => let ⟨u,a,b⟩ := h x v e; ⟨u,a,b.mono k⟩
end
section
abbrev NoE : Value → Shared → Prop := fun _ _ => False
def EP (prog : Program) (w : World) (g0 g : Heap) (L : Addr) (m : Str → Option Value) (s0 : Shared) (l : Led) (Q : Post) (v : Value) (s' : Shared) : Prop :=
  ∃ x H' l',Q x H' ∧ VR l' x v ∧ Le l l' ∧ St prog w g0 g L m H' l' s0 s'
def UP (prog : Program) (w : World) (g0 g : Heap) (L : Addr) (m : Str → Option Value) (s0 : Shared) (l : Led) (Q : AH → Prop) (s' : Shared) : Prop :=
  ∃ H' l',Q H' ∧ Le l l' ∧ St prog w g0 g L m H' l' s0 s'
def clsOk (K : Frag) (c : Cls) : Bool := plainGet K c.addr "x" && hasDictIn K c.addr && plainOver K c.addr && findIn K (.ref c.addr) "__setattr__" == some (some (.builtin "object.__setattr__")) && makesIn K c.addr &&
  findIn K (.ref c.addr) "__init__" == some (some (.ref c.init.addr)) && isFn K (.ref c.init.addr) && nsIn K mainGlobals c.gname == some (some (.ref c.addr))
def attrOk (K : Frag) (c : Cls) (n : N) : Bool := (match findIn K (.ref c.addr) n.str with | some a => noGet K a | none => false) && takerIn K c.addr n.str == some none
def methOk (K : Frag) (c : Cls) (n : N) (f : Fn) : Bool := findIn K (.ref c.addr) n.str == some (some (.ref f.addr)) && isFn K (.ref f.addr)
section
variable {prog : Program} {w : World} {A : Around} {s0 s : Shared} {K : Frag} {g0 g : Heap} {L : Addr} {m : Str → Option Value} {H : AH} {l : Led} {Q : Post}
theorem St.tok (S : St prog w g0 g L m H l s0 s) (t : Nat) : St prog w g0 g L m H l s0 { s with toks := t } := ⟨S.fr,S.nw,S.rep,S.sub,S.same⟩
theorem St.to (S : St prog w g0 g L m H l s0 s) {h' : Heap} {t : Nat} {m' : Str → Option Value} {l' : Led} {H' : AH} (F : Fr g L h' m') (N : News g L h' l') (R : Rep prog w l' g0 H') : St prog w g0 g L m' H' l' s0 { s with heap := h',toks := t } := ⟨F,N,R,S.sub,S.same⟩
theorem St.ep (S : St prog w g0 g L m H l s0 s) {x : V} {v : Value} (hv : VR l x v) (h : Q x H) (t : Nat) : EP prog w g0 g L m s0 l Q v { s with toks := t } := ⟨x,H,l,h,hv,Le.refl l,S.tok t⟩
theorem EP.mono {Q' : Post} {v : Value} {l0 : Led} (h : EP prog w g0 g L m s0 l Q v s) (k : Le l0 l) (hQ : ∀ x H,Q x H → Q' x H) : EP prog w g0 g L m s0 l0 Q' v s :=
  let ⟨x,H',l',a,b,c,d⟩ := h; ⟨x,H',l',hQ _ _ a,b,k.trans c,d⟩
theorem N.mem_all (a : N) : a ∈ N.all := by cases a <;> decide
theorem N.all_str : (N.all.map N.str).Nodup := by decide +kernel
theorem inj_of_nodup {α β : Type} {f : α → β} : ∀ {l : List α},(l.map f).Nodup → ∀ {a b : α},a ∈ l → b ∈ l → f a = f b → a = b
  | [],_,_,_,h,_,_ => nomatch h
  | x :: r,hn,a,b,h,h',e => by
    rw [List.map_cons,List.nodup_cons] at hn
    rcases List.mem_cons.mp h with h1 | h1 <;> rcases List.mem_cons.mp h' with h2 | h2
    · rw [h1,h2]
    · exact absurd (List.mem_map.mpr ⟨b,h2,by rw [← e,h1]⟩) hn.1
    · exact absurd (List.mem_map.mpr ⟨a,h1,by rw [e,h2]⟩) hn.1
    · exact inj_of_nodup hn.2 h1 h2 e
theorem N.inj {a b : N} (h : a.str = b.str) : a = b := inj_of_nodup N.all_str (N.mem_all a) (N.mem_all b) h
theorem isStr_of (n n' : N) (t : Tok) : (Value.str n'.str t).isStr n.str = decide (n' = n) := by
  by_cases hn : n' = n
  · subst hn; simp [Value.isStr]
  · rw [decide_eq_false hn]
    simp only [Value.isStr]
    exact beq_eq_false_iff_ne.mpr fun q => hn (N.inj q)
theorem ER.getL {m : List (N × V)} {es : List DictEntry} (e : ER l m es) {n : N} {x : V} (hx : lk m n = some x) : ∃ v,PySem.W.getL n.str es = some (some v) ∧ VR l x v := by
  induction e with
  | nil => cases hx
  | @cons n' x' h t v m es hv he ih =>
    rw [lk] at hx
    by_cases hn : n' = n
    · rw [if_pos hn] at hx; cases hx
      have q := isStr_of n n' t
      rw [decide_eq_true hn] at q
      exact ⟨v,by simp only [PySem.W.getL,List.find?_cons,q],hv⟩
    · rw [if_neg hn] at hx
      obtain ⟨v,a,b⟩ := ih hx
      refine ⟨v,?_,b⟩
      rw [← a]
      have q := isStr_of n n' t
      rw [decide_eq_false hn] at q
      simp only [PySem.W.getL,List.find?_cons,q,List.any_cons]
      rfl
theorem ER.getL_none {m : List (N × V)} {es : List DictEntry} (e : ER l m es) {n : N} (hx : lk m n = none) : PySem.W.getL n.str es = some none := by
  induction e with
  | nil => rfl
  | @cons n' x' h t v m es hv he ih =>
    rw [lk] at hx
    by_cases hn : n' = n
    · rw [if_pos hn] at hx; cases hx
    · rw [if_neg hn] at hx
      rw [← ih hx]
      have q := isStr_of n n' t
      rw [decide_eq_false hn] at q
      simp only [PySem.W.getL,List.find?_cons,q,List.any_cons]
      rfl
theorem ER.putL {m : List (N × V)} {es : List DictEntry} (e : ER l m es) (n : N) {x : V} {v : Value} (hv : VR l x v) (h : Int) (t : Tok) : ER l (sset m n x) (PySem.W.putL n.str h (.str n.str t) v es) := by
  induction e with
  | nil => exact .cons hv .nil
  | @cons n' x' h' t' v' m es hv' he ih =>
    rw [sset,PySem.W.putL,isStr_of]
    by_cases hn : n' = n
    · rw [if_pos hn,decide_eq_true hn,if_pos rfl]; exact .cons hv he
    · rw [if_neg hn,decide_eq_false hn,if_neg (by decide)]; exact .cons hv' ih
theorem ER.length {m : List (N × V)} {es : List DictEntry} (e : ER l m es) : es.length = m.length := by
  induction e with
  | nil => rfl
  | cons _ _ ih => simp [ih]
theorem sset_length {α β : Type} [DecidableEq α] (m : List (α × β)) (n : α) (x : β) : (sset m n x).length ≤ m.length + 1 := by
  induction m with
  | nil => simp [sset]
  | cons p r ih =>
    obtain ⟨y,u⟩ := p
    rw [sset]; split <;> simp <;> omega
theorem rdAttr_ok (hC : ∀ c,clsOk K c = true) (hA : ∀ c,∀ n ∈ c.attrs,attrOk K c n = true) (X : K.In g) (S : St prog w g0 g L m H l s0 s) {x : V} {v : Value} {n : N} (hv : VR l x v) (h : rdAttr x n H Q) :
    wpAny (model prog w) A (getAttr v n.str true) (EP prog w g0 g L m s0 l Q) NoE s := by
  cases hv with
  | none | bool | int | str | tup => simp only [rdAttr] at h
  | ref a =>
    simp only [rdAttr] at h
    split at h
    · rename_i c m' hH
      obtain ⟨hn,y,hy,hQ⟩ := h
      obtain ⟨own,R⟩ := S.rep
      obtain ⟨d,es,k,h1,h2,h3,h4⟩ := R.obj a _ hH
      obtain ⟨u,hu,hvu⟩ := h4.getL hy
      have C := hC c
      have At := hA c n hn
      simp only [clsOk,Bool.and_eq_true,beq_iff_eq] at C
      simp only [attrOk,Bool.and_eq_true,beq_iff_eq] at At
      obtain ⟨At1,At2⟩ := At
      cases hf : findIn K (.ref c.addr) n.str with
      | none => rw [hf] at At1; cases At1
      | some at_ =>
        rw [hf] at At1
        exact get_own S.fr X (InstAt.of_news S.nw h1 h2) (name := n.str) C.1.1.1.1.1.1.1 C.1.1.1.1.1.1.2 hf At1 hu hvu.handed (S.ep hvu hQ _)
    · exact h.elim
theorem setAttr_ok (hC : ∀ c,clsOk K c = true) (hA : ∀ c,∀ n ∈ c.attrs,attrOk K c n = true) (X : K.In g) (S : St prog w g0 g L m H l s0 s) {x y : V} {v u : Value} {n : N} {Q : AH → Prop} (hv : VR l x v) (hu : VR l y u) (h : setAttrV x n y H Q) :
    wpAny (model prog w) A (setAttr v n.str u) (fun _ s' => UP prog w g0 g L m s0 l Q s') NoE s := by
  cases hv with
  | none | bool | int | str | tup => simp only [setAttrV] at h
  | ref a =>
    simp only [setAttrV] at h
    split at h
    · rename_i c m' hH
      obtain ⟨hn,hlen,hQ⟩ := h
      obtain ⟨own,R⟩ := S.rep
      obtain ⟨d,es,k,h1,h2,h3,h4⟩ := R.obj a _ hH
      have C := hC c
      have At := hA c n hn
      simp only [clsOk,Bool.and_eq_true,beq_iff_eq] at C
      simp only [attrOk,Bool.and_eq_true,beq_iff_eq] at At
      have hget : (PySem.W.getL n.str es).isSome = true := by
        cases e : lk m' n with
        | none => rw [h4.getL_none e]; rfl
        | some x => obtain ⟨_,e,_⟩ := h4.getL e; rw [e]; rfl
      have hl := h4.putL n hu (PyData.keyHash w.params n.str) (s.toks + 1)
      refine set_dict S.fr X S.nw (InstAt.of_news S.nw h1 h2) rfl C.1.1.1.1.2 C.1.1.1.1.1.2 At.2 C.1.1.1.1.1.1.2 hget rfl (Upd_of R.nodup _ h2) ?_ fun h' F' N' => ?_
      · rw [hl.length]; have := sset_length m' n y; omega
      · have hle := Le.upd R.nodup (dictOf (PySem.W.putL n.str (PyData.keyHash w.params n.str) (.str n.str (s.toks + 1)) u es) (putN n.str es k)) h2 (mut_dict rfl)
        exact ⟨_,_,hQ,hle,S.to F' N' ⟨own,R.changeI hH h1 h2 h3 (hl.mono hle)⟩⟩
    · exact h.elim
end
end
section
def COp.real : COp → CmpOp
  | .eq => .Eq
  | .ne => .NotEq
  | .lt => .Lt
  | .le => .LtE
  | .gt => .Gt
  | .ge => .GtE
  | .isin => .In
  | .notin => .NotIn
  | .is_ => .Is
theorem tx_inj {a b : Tx} : tx a = tx b ↔ a = b := by
  constructor
  · intro h; simpa [tx] using h
  · rintro rfl; rfl
theorem tx_beq (a b : Tx) : ((tx a == tx b) = true) ↔ a = b := by rw [beq_iff_eq,tx_inj]
theorem tx_append (a b : Tx) : tx a ++ tx b = tx (a ++ b) := by
  show Str.mk _ = _
  simp [tx]
theorem tx_length (a : Tx) : (tx a).length = a.length := by simp [tx,Str.length]
section
variable {prog : Program} {w : World} {A : Around} {s0 s : Shared} {K : Frag} {g0 g : Heap} {L : Addr} {m : Str → Option Value} {H : AH} {l : Led} {Q : Post}
theorem strs_are : ∀ {xs : List V} {vs : List Value} {ts : List Tx},VRs l xs vs → listM strOf xs = some ts → StrsAre vs (ts.map tx)
  | _,_,_,.nil,h => by simp [listM] at h; subst h; exact .nil
  | x :: xs,_,ts,.cons a b,h => by
    cases a <;> simp only [listM,strOf] at h <;> try (cases h; done)
    rename_i t u
    cases hr : listM strOf xs with
    | none => rw [hr] at h; cases h
    | some ys => rw [hr] at h; cases h; exact .cons _ _ (strs_are b hr)
theorem ints_are : ∀ {xs : List V} {vs : List Value} {ts : List Int},VRs l xs vs → listM intOf xs = some ts → IntsAre vs ts
  | _,_,_,.nil,h => by simp [listM] at h; subst h; exact .nil
  | x :: xs,_,ts,.cons a b,h => by
    cases a <;> simp only [listM,intOf] at h <;> try (cases h; done)
    rename_i t u
    cases hr : listM intOf xs with
    | none => rw [hr] at h; cases h
    | some ys => rw [hr] at h; cases h; exact .cons _ _ (ints_are b hr)
mutual
def V.pd : V → PyData
  | .none => .none
  | .bool b => .bool b
  | .int i => .int i
  | .str s => .str (tx s)
  | .ref _ => .none
  | .tup xs => .tuple (pdL xs)
def pdL : List V → List PyData
  | [] => []
  | x :: r => x.pd :: pdL r
end
mutual
theorem VR.reads {h : Heap} (N : News g L h l) : ∀ {x : V} {v : Value},VR l x v → x.dat = true → Reads h v x.pd []
  | _,_,.none,_ => by simp only [V.pd]; exact .none
  | _,_,.bool b,_ => by simp only [V.pd]; exact .bool b
  | _,_,.int i t,_ => by simp only [V.pd]; exact .int i t
  | _,_,.str s t,_ => by simp only [V.pd]; exact .str _ t
  | _,_,.ref a,h => by simp only [V.dat] at h; cases h
  | _,_,.tup hm hs,h => by
    simp only [V.dat] at h
    simp only [V.pd]
    exact .tuple (N.get hm) rfl rfl (by simpa using hs.reads N h)
theorem VRs.reads {h : Heap} (N : News g L h l) : ∀ {xs : List V} {vs : List Value},VRs l xs vs → datL xs = true → ReadsAll h vs (pdL xs) []
  | _,_,.nil,_ => by simp only [pdL]; exact .nil
  | _,_,.cons a b,h => by
    simp only [datL,Bool.and_eq_true] at h
    simp only [pdL]
    exact ReadsAll.cons (a.reads N h.1) (b.reads N h.2)
end
mutual
theorem V.canLay : ∀ {x : V},x.dat = true → x.pd.canLay0 = true
  | .none,_ => by simp only [V.pd,PyData.canLay0]
  | .bool b,_ => by simp only [V.pd,PyData.canLay0]
  | .int i,_ => by simp only [V.pd,PyData.canLay0]
  | .str s,h => by
    simp only [V.dat,asc,List.all_eq_true,decide_eq_true_eq] at h
    simp only [V.pd,PyData.canLay0,PyData.strOk,tx,List.all_toArray,List.all_eq_true,decide_eq_true_eq]
    intro i hi
    have := h i hi
    omega
  | .ref a,h => by simp only [V.dat] at h; cases h
  | .tup xs,h => by
    simp only [V.dat] at h
    simp only [V.pd,PyData.canLay0]
    exact canLayL h
theorem canLayL : ∀ {xs : List V},datL xs = true → PyData.canLayAll0 (pdL xs) = true
  | [],_ => by simp only [pdL,PyData.canLayAll0]
  | x :: r,h => by
    simp only [datL,Bool.and_eq_true] at h
    simp only [pdL,PyData.canLayAll0,Bool.and_eq_true]
    exact ⟨V.canLay h.1,canLayL h.2⟩
end
mutual
theorem V.pd_depth : ∀ (x : V),x.dat = true → x.pd.depth = x.depth
  | .none,_ => by simp only [V.pd,V.depth,PyData.depth]
  | .bool b,_ => by simp only [V.pd,V.depth,PyData.depth]
  | .int i,_ => by simp only [V.pd,V.depth,PyData.depth]
  | .str s,_ => by simp only [V.pd,V.depth,PyData.depth]
  | .ref a,h => by simp only [V.dat] at h; cases h
  | .tup xs,h => by
    simp only [V.dat] at h
    have := pdL_depth xs h
    simp only [V.pd,V.depth,PyData.depth]
    omega
theorem pdL_depth : ∀ (xs : List V),datL xs = true → PyData.depthAll (pdL xs) = depthL xs
  | [],_ => by simp only [pdL,depthL,PyData.depthAll]
  | x :: r,h => by
    simp only [datL,Bool.and_eq_true] at h
    have a := V.pd_depth x h.1
    have b := pdL_depth r h.2
    simp only [pdL,depthL,PyData.depthAll]
    omega
end
mutual
theorem mix_of : ∀ (x y : V),x.dat = true → y.dat = true → mix x y = true → SeqAt.noMix x.pd y.pd = true
  | x,y,hx,hy,h => by
    cases x <;> cases y <;> simp only [V.dat] at hx hy <;> simp only [mix] at h <;> simp only [V.pd,SeqAt.noMix] <;> try (cases h; done)
    all_goals first
      | (cases hx; done)
      | (cases hy; done)
      | exact mixL_of _ _ hx hy h
theorem mixL_of : ∀ (xs ys : List V),datL xs = true → datL ys = true → mixL xs ys = true → SeqAt.noMixAll (pdL xs) (pdL ys) = true
  | [],[],_,_,_ => by simp only [pdL,SeqAt.noMixAll]
  | [],y :: q,_,_,_ => by simp only [pdL,SeqAt.noMixAll]
  | x :: r,[],_,_,_ => by simp only [pdL,SeqAt.noMixAll]
  | x :: r,y :: q,hx,hy,h => by
    simp only [datL,Bool.and_eq_true] at hx hy
    simp only [mixL,Bool.and_eq_true] at h
    simp only [pdL,SeqAt.noMixAll,Bool.and_eq_true]
    exact ⟨mix_of x y hx.1 hy.1 h.1,mixL_of r q hx.2 hy.2 h.2⟩
end
mutual
theorem same_of : ∀ (x y : V),x.dat = true → y.dat = true → mix x y = true → (Spec.same x.pd y.pd = true ↔ x = y)
  | x,y,hx,hy,h => by
    cases x <;> cases y <;> simp only [V.dat] at hx hy <;> simp only [mix] at h <;> simp only [V.pd,Spec.same] <;> try (cases h; done)
    all_goals first
      | (cases hx; done)
      | (cases hy; done)
      | (simp; done)
      | (simp [tx_inj]; done)
      | (rw [V.tup.injEq]; exact sameL_of _ _ hx hy h)
theorem sameL_of : ∀ (xs ys : List V),datL xs = true → datL ys = true → mixL xs ys = true → (Spec.sameAll (pdL xs) (pdL ys) = true ↔ xs = ys)
  | [],[],_,_,_ => by simp only [pdL,Spec.sameAll]
  | [],y :: q,_,_,_ => by simp [pdL,Spec.sameAll]
  | x :: r,[],_,_,_ => by simp [pdL,Spec.sameAll]
  | x :: r,y :: q,hx,hy,h => by
    simp only [datL,Bool.and_eq_true] at hx hy
    simp only [mixL,Bool.and_eq_true] at h
    simp only [pdL,Spec.sameAll,Bool.and_eq_true,List.cons.injEq]
    rw [same_of x y hx.1 hy.1 h.1,sameL_of r q hx.2 hy.2 h.2]
end
theorem KR.lk {K' : Type} [DecidableEq K'] {K : Type} [DecidableEq K] {f : K → K'} (inj : ∀ a b,f a = f b → a = b) {mm : List (K × V)} {kvs : List (K' × Value)} (e : KR f l mm kvs) (k : K) :
    (Mine.lk mm k = none ∧ valueAt kvs (f k) = none) ∨ ∃ x v,Mine.lk mm k = some x ∧ valueAt kvs (f k) = some v ∧ VR l x v := by
  induction e with
  | nil => exact .inl ⟨rfl,rfl⟩
  | @cons k' x v mm es hv he ih =>
    by_cases hk : k' = k
    · subst hk
      exact .inr ⟨x,v,by rw [Mine.lk,if_pos rfl],by simp [valueAt],hv⟩
    · have hk' : f k' ≠ f k := fun q => hk (inj _ _ q)
      have e1 : Mine.lk ((k',x) :: mm) k = Mine.lk mm k := by rw [Mine.lk,if_neg hk]
      have e2 : valueAt ((f k',v) :: es) (f k) = valueAt es (f k) := by simp [valueAt,hk']
      rw [e1,e2]; exact ih
theorem sizeLine_big : (16777216 : Nat) = sizeLine := by rw [sizeLine_eq]
end
section
variable {prog : Program} {w : World} {A : Around} {s0 s : Shared} {K : Frag} {g0 g : Heap} {L : Addr} {m : Str → Option Value} {H : AH} {l : Led}
def CmpSays (prog : Program) (w : World) (A : Around) (s : Shared) (o : CmpOp) (v u : Value) (P : Prop) : Prop :=
  ∀ Q : Value → Shared → Prop,(∀ (r : Bool) (t : Nat),(r = true ↔ P) → Q (.bool r) { s with toks := t }) → wpAny (model prog w) A (compareOp o v u) Q NoE s
theorem bool_not_iff {r : Bool} {P : Prop} (h : r = true ↔ P) : ((!r) = true) ↔ ¬ P := by cases r <;> simp_all
theorem eqP_ok (hu : A.units + 64 < cLine) (S : St prog w g0 g L m H l s0 s) {x y : V} {v u : Value} (hx : VR l x v) (hy : VR l y u) {Kp : Prop → Prop} (h : eqP H x y Kp) :
    ∃ P,Kp P ∧ CmpSays prog w A s .Eq v u P ∧ CmpSays prog w A s .NotEq v u (¬ P) := by
  have data : ∀ {xs ys : V},VR l xs v → VR l ys u → (xs.dat = true ∧ ys.dat = true ∧ mix xs ys = true ∧ xs.depth ≤ 60 ∧ ys.depth ≤ 60) → CmpSays prog w A s .Eq v u (xs = ys) ∧ CmpSays prog w A s .NotEq v u (¬ (xs = ys)) := by
    intro xs ys a b c
    obtain ⟨c1,c2,c3,c4,c5⟩ := c
    have sh : ∀ z : V,z.dat = true → z.depth ≤ 60 → SeqAt.shaped z.pd = true := fun z h1 h2 => by
      show (z.pd.canLay0 && decide (z.pd.depth ≤ 64)) = true
      rw [Bool.and_eq_true]
      exact ⟨V.canLay h1,decide_eq_true (by rw [V.pd_depth z h1]; omega)⟩
    have e := same_of xs ys c1 c2 c3
    refine ⟨fun Q h => ?_,fun Q h => ?_⟩
    · exact eq_dataH_same (a.reads S.nw c1) (b.reads S.nw c2) (sh _ c1 c4) (sh _ c2 c5) hu (mix_of _ _ c1 c2 c3) (h _ s.toks e)
    · exact ne_dataH_same (a.reads S.nw c1) (b.reads S.nw c2) (sh _ c1 c4) (sh _ c2 c5) hu (mix_of _ _ c1 c2 c3) (h _ s.toks (bool_not_iff e))
  cases hx with
  | none => simp only [eqP] at h
  | int i t =>
    cases hy <;> simp only [eqP] at h
    rename_i j t'
    refine ⟨_,h,fun Q hq => eq_int (hq _ s.toks (by simp)),fun Q hq => ne_int (hq _ s.toks (by simp))⟩
  | bool b =>
    cases hy <;> simp only [eqP] at h
    rename_i b'
    have := data (.bool b) (.bool b') ⟨rfl,rfl,rfl,by simp [V.depth],by simp [V.depth]⟩
    refine ⟨_,h,?_⟩
    simpa using this
  | str a t =>
    cases hy <;> simp only [eqP] at h
    rename_i b t'
    refine ⟨_,h,fun Q hq => eq_str (hq _ s.toks (tx_beq a b)),fun Q hq => ne_str (hq _ s.toks ?_)⟩
    have := bool_not_iff (tx_beq a b)
    exact this
  | tup hm hs =>
    cases hy <;> simp only [eqP] at h
    rename_i hm' hs'
    obtain ⟨⟨c1,c2,c3,c4,c5⟩,h⟩ := h
    have := data (.tup hm hs) (.tup hm' hs') ⟨by simpa only [V.dat] using c1,by simpa only [V.dat] using c2,by simpa only [mix] using c3,by simp only [V.depth]; omega,by simp only [V.depth]; omega⟩
    rw [V.tup.injEq] at this
    exact ⟨_,h,this⟩
  | ref a =>
    cases hy <;> simp only [eqP] at h
    rename_i b
    split at h
    · rename_i xs ys hA hB
      obtain ⟨⟨c1,c2,c3,c4,c5⟩,h⟩ := h
      obtain ⟨own,R⟩ := S.rep
      obtain ⟨vs,n,m1,r1⟩ := R.obj a _ hA
      obtain ⟨us,n',m2,r2⟩ := R.obj b _ hB
      have sh : ∀ z : List V,datL z = true → depthL z ≤ 50 → SeqAt.shaped (.list (pdL z)) = true := fun z h1 h2 => by
        show (PyData.canLay0 (.list (pdL z)) && decide (PyData.depth (.list (pdL z)) ≤ 64)) = true
        rw [Bool.and_eq_true]
        have := pdL_depth z h1
        refine ⟨by simp only [PyData.canLay0]; exact canLayL h1,decide_eq_true ?_⟩
        simp only [PyData.depth]; omega
      have ra : Reads s.heap (.ref a) (.list (pdL xs)) [a] := .list (S.nw.get m1) rfl rfl (by simpa using r1.reads S.nw c1)
      have rb : Reads s.heap (.ref b) (.list (pdL ys)) [b] := .list (S.nw.get m2) rfl rfl (by simpa using r2.reads S.nw c2)
      have e : Spec.same (.list (pdL xs)) (.list (pdL ys)) = true ↔ xs = ys := by simp only [Spec.same]; exact sameL_of xs ys c1 c2 c3
      have mx : SeqAt.noMix (.list (pdL xs)) (.list (pdL ys)) = true := by simp only [SeqAt.noMix]; exact mixL_of xs ys c1 c2 c3
      refine ⟨_,h,fun Q hq => ?_,fun Q hq => ?_⟩
      · exact eq_dataH_same ra rb (sh _ c1 c4) (sh _ c2 c5) hu mx (hq _ s.toks e)
      · exact ne_dataH_same ra rb (sh _ c1 c4) (sh _ c2 c5) hu mx (hq _ s.toks (bool_not_iff e))
    · exact h.elim
end
end
section
section
variable {prog : Program} {w : World} {A : Around} {s0 s : Shared} {K : Frag} {g0 g : Heap} {L : Addr} {m : Str → Option Value} {H : AH} {l : Led}
theorem any_tx (ts : List Tx) (k : Tx) : ((ts.map tx).any (· == tx k) = true) ↔ k ∈ ts := by
  simp [List.any_eq_true,tx_inj]
theorem any_int (ts : List Int) (k : Int) : (ts.any (· == k) = true) ↔ k ∈ ts := by
  simp [List.any_eq_true]
theorem isSome_valueAt {K' : Type} [DecidableEq K'] {K : Type} [DecidableEq K] {f : K → K'} (inj : ∀ a b,f a = f b → a = b) {mm : List (K × V)} {kvs : List (K' × Value)} (e : KR f l mm kvs) (k : K) :
    ((valueAt kvs (f k)).isSome = true) ↔ ((lk mm k).isSome = true) := by
  rcases e.lk inj k with ⟨a,b⟩ | ⟨x,v,a,b,_⟩ <;> rw [a,b] <;> simp
theorem memP_ok (S : St prog w g0 g L m H l s0 s) {x y : V} {v u : Value} (hx : VR l x v) (hy : VR l y u) {Kp : Prop → Prop} (h : memP H x y Kp) :
    ∃ P,Kp P ∧ CmpSays prog w A s .In v u P ∧ CmpSays prog w A s .NotIn v u (¬ P) := by
  cases hy with
  | none => simp only [memP] at h
  | int i t => simp only [memP] at h
  | bool b => simp only [memP] at h
  | str b t =>
    simp only [memP] at h
    cases hx <;> try exact h.elim
    rename_i a t'
    split at h
    · rename_i c hc
      cases hc
      have e : ((!(Builtin.Str.occurrences (tx b) (tx [c]) 0 (tx b).length 1).isEmpty) = true) ↔ c ∈ b := by
        rw [show tx [c] = ⟨#[c]⟩ from rfl,PySem.StrLaws.found_one,decide_eq_true_eq]; simp [tx]
      exact ⟨_,h,fun Q hq => in_str (hq _ s.toks e),fun Q hq => PySem.P.notIn_str (hq _ s.toks (bool_not_iff e))⟩
    · exact h.elim
  | tup hm hs =>
    simp only [memP] at h
    cases hx <;> simp only at h
    rename_i a t'
    obtain ⟨ts,e,h⟩ := h
    have ht : IsTup s.heap _ _ := ⟨_,S.nw.get hm,rfl,_,rfl⟩
    have hi := strs_are hs e
    refine ⟨_,h,fun Q hq => in_tuple_strs ht hi (hq _ s.toks (any_tx ts a)),fun Q hq => notin_tuple_strs ht hi (hq _ s.toks (bool_not_iff (any_tx ts a)))⟩
  | ref a =>
    simp only [memP] at h
    obtain ⟨own,R⟩ := S.rep
    split at h
    · rename_i xs k hA
      cases hx
      obtain ⟨ts,e,h⟩ := h
      obtain ⟨vs,n,m1,r1⟩ := R.obj a _ hA
      have hl : s.heap.IsList a vs.toArray := S.nw.isList m1
      have hi := strs_are r1 e
      refine ⟨_,h,fun Q hq => in_list_strs hl hi (hq _ s.toks (any_tx ts k)),fun Q hq => notin_list_strs hl hi (hq _ s.toks (bool_not_iff (any_tx ts k)))⟩
    · rename_i xs k hA
      cases hx
      obtain ⟨ts,e,h⟩ := h
      obtain ⟨vs,n,m1,r1⟩ := R.obj a _ hA
      have hl : s.heap.IsList a vs.toArray := S.nw.isList m1
      have hi := ints_are r1 e
      refine ⟨_,h,fun Q hq => in_list_ints hl hi (hq _ s.toks (any_int ts k)),fun Q hq => notin_list_ints hl hi (hq _ s.toks (bool_not_iff (any_int ts k)))⟩
    · rename_i mm k hA
      cases hx
      obtain ⟨o,kvs,m1,r1,r2,r3⟩ := R.obj a _ hA
      have hm : s.heap.MapOf (strKind prog w) a (valueAt kvs) := (Heap.dictOf_iff.mpr ⟨o,S.nw.get m1,r1⟩).mapOf
      have e := isSome_valueAt (fun _ _ => tx_inj.mp) r2 k
      exact ⟨_,h,fun Q hq => wpAny_in_of (strKind_is prog w _ _) r3 hm (hq _ _ e),fun Q hq => wpAny_notIn_of (strKind_is prog w _ _) r3 hm (hq _ _ (bool_not_iff e))⟩
    · rename_i mm k hA
      cases hx
      obtain ⟨o,kvs,m1,r1,r2,r3⟩ := R.obj a _ hA
      have hm : s.heap.MapOf (intKind prog w) a (valueAt kvs) := (Heap.dictOf_iff.mpr ⟨o,S.nw.get m1,r1⟩).mapOf
      have e := isSome_valueAt (f := id) (fun _ _ h => h) r2 k
      exact ⟨_,h,fun Q hq => wpAny_in_of (intKind_is prog w _ _) r3 hm (hq _ _ e),fun Q hq => wpAny_notIn_of (intKind_is prog w _ _) r3 hm (hq _ _ (bool_not_iff e))⟩
    · exact h.elim
theorem cmp_ok (hu : A.units + 64 < cLine) (S : St prog w g0 g L m H l s0 s) {x y : V} {v u : Value} (o : COp) (hx : VR l x v) (hy : VR l y u) {Kp : Prop → Prop} (h : cmpP o x y H Kp) : ∃ P,Kp P ∧ CmpSays prog w A s o.real v u P := by
  cases o <;> simp only [cmpP] at h
  case eq => obtain ⟨P,a,b,c⟩ := eqP_ok (A := A) hu S hx hy h; exact ⟨_,a,b⟩
  case ne => obtain ⟨P,a,b,c⟩ := eqP_ok (A := A) hu S hx hy h; exact ⟨_,a,c⟩
  case isin => obtain ⟨P,a,b,c⟩ := memP_ok (A := A) S hx hy h; exact ⟨_,a,b⟩
  case notin => obtain ⟨P,a,b,c⟩ := memP_ok (A := A) S hx hy h; exact ⟨_,a,c⟩
  case lt => cases hx <;> cases hy <;> simp only at h; exact ⟨_,h,fun Q hq => lt_int (hq _ s.toks (by simp))⟩
  case gt => cases hx <;> cases hy <;> simp only at h; exact ⟨_,h,fun Q hq => gt_int (hq _ s.toks (by simp))⟩
  case ge => cases hx <;> cases hy <;> simp only at h; exact ⟨_,h,fun Q hq => ge_int (hq _ s.toks (by simp))⟩
  case le =>
    cases hx <;> cases hy <;> simp only at h
    · exact ⟨_,h,fun Q hq => le_int (hq _ s.toks (by simp))⟩
    · exact ⟨_,h,fun Q hq => PySem.P.le_str (hq _ s.toks (by simp only [tx,Bool.not_eq_true']; exact ⟨of_decide_eq_false,decide_eq_false⟩))⟩
  case is_ =>
    cases hy <;> simp only at h
    refine ⟨_,h,fun Q hq => ?_⟩
    cases hx with
    | none => exact wpAny_is_self rfl (hq _ s.toks (by simp))
    | int i t => exact is_none_ne (by intro x; cases x) (hq _ s.toks (by simp))
    | bool b => exact is_none_ne (by intro x; cases x) (hq _ s.toks (by simp))
    | str a t => exact is_none_ne (by intro x; cases x) (hq _ s.toks (by simp))
    | ref a => exact is_none_ne (by intro x; cases x) (hq _ s.toks (by simp))
    | tup _ _ => exact is_none_ne (by intro x; cases x) (hq _ s.toks (by simp))
theorem St.fresh (S : St prog w g0 g L m H l s0 s) : s.heap.objs.size ∉ l.map (·.1) := fun h => by
  obtain ⟨p,hp,e⟩ := List.mem_map.mp h
  exact absurd (Heap.lt_size (S.nw p hp).1) (by rw [e]; exact Nat.lt_irrefl _)
theorem St.newEP (S : St prog w g0 g L m H l s0 s) {Q : Post} {h' : Heap} {c : Addr} {o : Obj} {ox : O} (F : Fr g L h' m) (N : News g L h' ((c,o) :: l)) (hc : c ∉ l.map (·.1)) (ho : ∀ own,OR prog w own ((c,o) :: l) g0 c ox)
    (hQ : ∀ c,H c = none → Q (.ref c) (put H c ox)) (t : Nat) : EP prog w g0 g L m s0 l Q (.ref c) { s with heap := h',toks := t } := by
  obtain ⟨own,R⟩ := S.rep
  have hn := R.fresh hc (by cases e : g0.get? c with | none => rfl | some o' => have := S.sub _ _ e; rw [(N (c,o) (.head _)).2.2] at this; cases this)
  exact ⟨.ref c,_,_,hQ c hn,.ref c,Le.cons _ _,S.to F N ⟨own,R.new hc (ho own)⟩⟩
theorem St.newTup (S : St prog w g0 g L m H l s0 s) {Q : Post} {h' : Heap} {c : Addr} {xs : List V} {vs : List Value} (F : Fr g L h' m) (N : News g L h' ((c,tupObj vs) :: l)) (hc : c ∉ l.map (·.1)) (hv : VRs l xs vs)
    (hQ : Q (.tup xs) H) (t : Nat) : EP prog w g0 g L m s0 l Q (.ref c) { s with heap := h',toks := t } := by
  obtain ⟨own,R⟩ := S.rep
  exact ⟨.tup xs,_,_,hQ,.tup (.head _) (hv.mono (Le.cons _ _)),Le.cons _ _,S.to F N ⟨own,R.more hc⟩⟩
theorem big_list (n : Nat) (h : n ≤ 10000000) : n ≤ sizeLine := by rw [sizeLine_eq]; omega
theorem newList_ok (S : St prog w g0 g L m H l s0 s) {Q : Post} {xs : List V} {vs : List Value} (hv : VRs l xs vs) (hl : xs.length ≤ 10000000) (hQ : ∀ c,H c = none → Q (.ref c) (put H c (.list xs))) :
    wpAny (model prog w) A (newList vs) (EP prog w g0 g L m s0 l Q) NoE s :=
  newList_N S.fr S.nw (fun _ F N => S.newEP (ox := .list xs) F N S.fresh (fun _ => ⟨vs,0,.head _,hv.mono (Le.cons _ _)⟩) hQ s.toks) (by rw [hv.length]; exact big_list _ hl)
theorem newTuple_ok (S : St prog w g0 g L m H l s0 s) {Q : Post} {xs : List V} {vs : List Value} (hv : VRs l xs vs) (hl : xs.length ≤ 10000000) (hQ : Q (.tup xs) H) :
    wpAny (model prog w) A (newTuple vs) (EP prog w g0 g L m s0 l Q) NoE s :=
  newTuple_N S.fr S.nw (fun _ F N => S.newTup F N S.fresh hv hQ s.toks) (by rw [hv.length]; exact big_list _ hl)
def BOp.real : BOp → Operator
  | .add => .Add
  | .sub => .Sub
  | .mul => .Mult
  | .fdiv => .FloorDiv
  | .mod => .Mod
theorem small_mul {a b : Int} (ha : small a) : IntMulOk a b := by
  unfold small at ha
  exact IntMulOk.of_left (PySem.intBits_le_64 (by omega) (by omega))
theorem fdiv_eq' {a b : Int} (h : 0 < b) : Int.fdiv a b = a / b := by rw [Int.fdiv_eq_ediv_of_nonneg _ (Int.le_of_lt h)]
theorem fmod_eq' {a b : Int} (h : 0 < b) : Int.fmod a b = a % b := by rw [Int.fmod_eq_emod_of_nonneg _ (Int.le_of_lt h)]
theorem VR.replicate {x : V} {v : Value} (h : VR l x v) : ∀ n,VRs l (List.replicate n x) (List.replicate n v)
  | 0 => .nil
  | n + 1 => .cons h (VR.replicate h n)
theorem foldl_rep (v : Value) : ∀ (n : Nat) (acc : Array Value),List.foldl (fun x1 x2 => x1 ++ x2) acc (List.replicate n #[v]) = acc ++ (List.replicate n v).toArray
  | 0,acc => by simp
  | n + 1,acc => by
    rw [List.replicate_succ,List.foldl_cons,foldl_rep v n,List.replicate_succ]
    apply Array.toList_inj.mp
    simp
theorem bin_ok (S : St prog w g0 g L m H l s0 s) {Q : Post} {x y : V} {v u : Value} (o : BOp) (hx : VR l x v) (hy : VR l y u) (h : binV o x y H Q) :
    wpAny (model prog w) A (binaryOp o.real v u) (EP prog w g0 g L m s0 l Q) NoE s := by
  cases o with
  | add =>
    cases hx <;> cases hy <;> simp only [binV] at h <;> try exact h.elim
    · exact add_int (S.ep (.int _ _) h _)
    · refine add_str (fun t' tk => ?_) (by rw [tx_length,tx_length]; exact big_list _ h.1)
      rw [tx_append]; exact S.ep (.str _ _) h.2 _
    · obtain ⟨own,R⟩ := S.rep
      split at h
      · rename_i xs ys hA hB
        obtain ⟨vs,n,m1,r1⟩ := R.obj _ _ hA
        obtain ⟨us,n',m2,r2⟩ := R.obj _ _ hB
        refine add_lists S.fr S.nw (S.nw.isList m1) (S.nw.isList m2) (fun h' F N => ?_) (by rw [r1.length,r2.length]; have := h.1; exact big_list _ (by omega))
        exact S.newEP (ox := .list (xs ++ ys)) F N S.fresh (fun _ => ⟨vs ++ us,0,.head _,(r1.append r2).mono (Le.cons _ _)⟩) h.2 s.toks
      · exact h.elim
    · rename_i m1 r1 _ _ _ m2 r2
      have t1 : IsTup s.heap _ _ := ⟨_,S.nw.get m1,rfl,_,rfl⟩
      have t2 : IsTup s.heap _ _ := ⟨_,S.nw.get m2,rfl,_,rfl⟩
      refine add_tuples S.fr S.nw t1 t2 (fun e => ?_) (fun _ e => ?_) (fun _ _ h' F N => ?_) (by rw [r1.length,r2.length]; have := h.1; exact big_list _ (by omega))
      · subst e; cases r1; exact S.ep (.tup m2 r2) h.2 s.toks
      · subst e; cases r2; rw [List.append_nil] at h; exact S.ep (.tup m1 r1) h.2 s.toks
      · exact S.newTup F N S.fresh (r1.append r2) h.2 s.toks
  | sub =>
    cases hx <;> cases hy <;> simp only [binV] at h <;> try exact h.elim
    exact sub_int (S.ep (.int _ _) h _)
  | mul =>
    cases hx <;> cases hy <;> simp only [binV] at h <;> try exact h.elim
    · exact mul_int (S.ep (.int _ _) h.2.2 _) (small_mul h.1)
    · obtain ⟨own,R⟩ := S.rep
      split at h
      · rename_i x hA
        obtain ⟨vs,n,m1,r1⟩ := R.obj _ _ hA
        cases r1 with
        | cons a b =>
          cases b
          rename_i k _ _ v0
          refine mul_list S.fr S.nw (S.nw.get m1) (by omega) (by omega) (by simp; omega) fun h' F N => ?_
          have e : List.foldl (fun x1 x2 => x1 ++ x2) #[] (List.replicate (if [v0].toArray.isEmpty = true then 0 else k.toNat) [v0].toArray) = (List.replicate k.toNat v0).toArray := by
            have := foldl_rep v0 k.toNat #[]
            simpa using this
          rw [e] at N
          exact S.newEP (ox := .list (List.replicate k.toNat x)) F N S.fresh (fun _ => ⟨List.replicate k.toNat v0,0,.head _,(a.mono (Le.cons _ _)).replicate _⟩) h.2.2 s.toks
      · exact h.elim
  | fdiv =>
    cases hx <;> cases hy <;> simp only [binV] at h <;> try exact h.elim
    refine floordiv_int (by omega) ?_ (.inl (PyProof.noPylong_small (by omega)))
    rw [fdiv_eq' h.1]; exact S.ep (.int _ _) h.2.2 _
  | mod =>
    cases hx <;> cases hy <;> simp only [binV] at h <;> try exact h.elim
    refine mod_int' (by omega) ?_
    rw [fmod_eq' h.1]; exact S.ep (.int _ _) h.2 _
end
end
section
section
variable {prog : Program} {w : World} {A : Around} {s0 s : Shared} {K : Frag} {g0 g : Heap} {L : Addr} {m : Str → Option Value} {H : AH} {l : Led}
theorem St.listUpd (S : St prog w g0 g L m H l s0 s) {a : Addr} {xs ys : List V} {vs vs' : List Value} {n : Nat} {f : Array Value → Array Value} (hH : H a = some (.list xs)) (hm : (a,W.listOf vs.toArray n) ∈ l) (hf : f vs.toArray = vs'.toArray) (hv : VRs l ys vs') :
    ∃ l',Le l l' ∧ Fr g L (s.heap.update a (Obj.mapSeq f)) m ∧ News g L (s.heap.update a (Obj.mapSeq f)) l' ∧ Rep prog w l' g0 (put H a (.list ys)) ∧ (∃ n',l' = upd l a (W.listOf vs'.toArray n')) := by
  obtain ⟨own,R⟩ := S.rep
  have z := S.nw _ hm
  obtain ⟨n',e⟩ : ∃ n',Obj.mapSeq f (W.listOf vs.toArray n) = W.listOf vs'.toArray n' := ⟨if ((f vs.toArray).size == vs.toArray.size) = true then n else n + 1,by rw [← hf]; rfl⟩
  have ho := Heap.get?_update_self (Obj.mapSeq f) z.1 (by rw [e]; rfl)
  rw [e] at ho
  have hle := Le.upd R.nodup (W.listOf vs'.toArray n') hm (mut_list _ _)
  exact ⟨upd l a (W.listOf vs'.toArray n'),hle,S.fr.change (Heap.SameBut.update ..) z.2.1 z.2.2,S.nw.replace (Heap.SameBut.update ..) ho,
    ⟨own,R.change hH hm (mut_list _ _) ⟨vs',n',upd_self hm,hv.mono hle⟩⟩,n',rfl⟩
theorem fillI_list : fillsInplaceSlot (.type "list") "add" (Operator.Add == .Add) = pure false := by
  unfold fillsInplaceSlot
  show (typeLookup (.type "list") (dunderI "add") >>= fun fi => pure (fi.isSome && !isSeqSlot fi)) = pure false
  rw [F.slot_list_iadd.lookup]; rfl
theorem seqI_list : seqSlot? (.type "list") (dunderI "add") = pure (some (.builtin "list.__iadd__")) := by
  unfold seqSlot?
  rw [F.slot_list_iadd.lookup]; rfl
theorem iadd_list {a b : Addr} {its its2 : Array Value} {n n2 : Nat} {Q : Value → Shared → Prop} (ha : s.heap.get? a = some (W.listOf its n)) (hb : s.heap.get? b = some (W.listOf its2 n2)) (hsz : its.size + its2.size ≤ sizeLine)
    (h : Q (.ref a) { s with heap := s.heap.update a (Obj.mapSeq (· ++ its2)) }) : wpAny (model prog w) A (inplaceOp .Add (.ref a) (.ref b)) Q NoE s := by
  have Ta : s.TypeIs (.ref a) "list" := ⟨_,ha,rfl⟩
  have Tb : s.TypeIs (.ref b) "list" := ⟨_,hb,rfl⟩
  unfold inplaceOp
  refine wpAny_holding ?_
  refine wpAny_bind (wpAny_typeOf Ta (wpAny_bind (wpAny_of_eq fillI_list ?_)))
  show wpAny _ A (if false = true then _ else _) Q NoE s
  rw [if_neg Bool.false_ne_true]
  refine wpAny_bind (wpAny_binaryOp1_none (nm := "add") Ta Tb noFill_list_add ?_)
  refine wpAny_bind (wpAny_of_eq seqI_list ?_)
  refine wpAny_bind (wpAny_rule ?_)
  refine wpAny_call_entry F.slot_list_iadd Ta F.entry_list_iadd ?_ (F.args_list_iadd_2 _ _)
  unfold Builtin.«list.__iadd__»
  refine wpAny_bind (m := slotArgs "__iadd__" 1 ⟨[.ref a,.ref b],[]⟩) (wpAny_pure ?_)
  show wpAny _ _ (Builtin.List.listExtendWith (.ref a) (.ref b) (.ref a)) _ _ _
  unfold Builtin.List.listExtendWith
  refine wpAny_bind (wpAny_typeOf Tb ?_)
  have c : (Builtin.List.listSameRef (.ref a) (.ref b) || (Value.type "list" == Value.type "list") || (Value.type "list" == Value.type "tuple")) = true := by simp
  rw [if_pos c]
  refine wpAny_bind (wpAny_listItems hb rfl ?_)
  refine wpAny_bind (wpAny_listItems ha rfl ?_)
  have c2 : ¬ ((!its.isEmpty && Builtin.List.listTooLong (its.size + its2.size)) = true) := by
    simp only [Builtin.List.listTooLong,Bool.and_eq_true,decide_eq_true_eq]; omega
  rw [if_neg c2]
  refine wpAny_bind (m := Builtin.List.listUpdate (.ref a) (· ++ its2)) ?_
  refine wpAny_updateSeq ha rfl ?_ (by omega) (by rw [Array.size_append]; omega)
  exact wpAny_pure ⟨_,rfl,h⟩
theorem aug_ok (S : St prog w g0 g L m H l s0 s) {Q : Post} {x y : V} {v u : Value} (hx : VR l x v) (hy : VR l y u) (h : augV x y H Q) :
    wpAny (model prog w) A (inplaceOp .Add v u) (EP prog w g0 g L m s0 l Q) NoE s := by
  cases hx <;> cases hy <;> simp only [augV] at h <;> try exact h.elim
  · exact iadd_int (S.ep (.int _ _) h _)
  · refine SBL.iadd (fun t' tk _ => ?_) (by rw [tx_length,tx_length]; exact big_list _ h.1)
    rw [tx_append]; exact S.ep (.str _ _) h.2 _
  · have hr := S.rep
    obtain ⟨own,R⟩ := hr
    split at h
    · rename_i a b _ _ xs ys hA hB
      obtain ⟨vs,n,m1,r1⟩ := R.obj _ _ hA
      obtain ⟨us,n',m2,r2⟩ := R.obj _ _ hB
      obtain ⟨h0,h1,h2⟩ := h
      obtain ⟨l',k1,k2,k3,k4,_⟩ := S.listUpd (f := (· ++ us.toArray)) hA m1 (vs' := vs ++ us) (by simp) (r1.append r2)
      refine iadd_list (S.nw.get m1) (S.nw.get m2) (by simp only [List.size_toArray]; rw [r1.length,r2.length]; exact big_list _ (by omega)) ?_
      exact ⟨_,_,_,h2,.ref _,k1,S.to (t := s.toks) k2 k3 k4⟩
    · exact h.elim
theorem append_ok (S : St prog w g0 g L m H l s0 s) {Q : Post} {x y : V} {v u : Value} (hx : VR l x v) (hy : VR l y u) (h : appendV x y H Q) :
    wpAny (model prog w) A (call (.builtin "list.append") [v,u]) (EP prog w g0 g L m s0 l Q) NoE s := by
  cases hx <;> simp only [appendV] at h
  obtain ⟨own,R⟩ := S.rep
  split at h
  · rename_i a _ xs hA
    obtain ⟨vs,n,m1,r1⟩ := R.obj _ _ hA
    have hle := Le.upd R.nodup (W.listOf (vs.toArray.push u) (n + 1)) m1 (mut_list _ _)
    refine append_K S.fr S.nw (Upd_of R.nodup _ m1) (fun h' F N => ?_) (by rw [List.size_toArray,r1.length]; exact big_list _ (by omega))
    exact ⟨.none,_,_,h.2,.none,hle,S.to (t := s.toks) F N ⟨own,R.change hA m1 (mut_list _ _) ⟨vs ++ [u],n + 1,by rw [show (vs ++ [u]).toArray = vs.toArray.push u by simp]; exact upd_self m1,(r1.snoc hy).mono hle⟩⟩⟩
  · exact h.elim
theorem VRs.last : ∀ {xs : List V} {vs : List Value},VRs l xs vs → ∀ {x : V},xs.getLast? = some x → ∃ v,vs = vs.dropLast ++ [v] ∧ VR l x v ∧ VRs l xs.dropLast vs.dropLast
  | _,_,.nil,_,e => by cases e
  | _,_,.cons (v := u) a .nil,_,e => by simp at e; subst e; exact ⟨u,rfl,a,.nil⟩
  | _,_,.cons a (.cons a' b'),x,e => by
    obtain ⟨v,h1,h2,h3⟩ := (VRs.cons a' b').last (x := x) (by simpa using e)
    refine ⟨v,?_,h2,?_⟩
    · rw [List.dropLast_cons_of_ne_nil (by simp),List.cons_append,← h1]
    · exact .cons a h3
theorem kl_last_of : ∀ (p : List Value) (y : Value),kl_last (p ++ [y]) = some (p,y)
  | [],y => rfl
  | x :: r,y => by rw [List.cons_append,kl_last,kl_last_of r y]
theorem pop_ok (S : St prog w g0 g L m H l s0 s) {Q : Post} {x : V} {v : Value} (hx : VR l x v) (h : popV x H Q) :
    wpAny (model prog w) A (call (.builtin "list.pop") [v]) (EP prog w g0 g L m s0 l Q) NoE s := by
  cases hx <;> simp only [popV] at h
  obtain ⟨own,R⟩ := S.rep
  split at h
  · rename_i a _ xs hA
    obtain ⟨hl,y,hy,h⟩ := h
    obtain ⟨vs,n,m1,r1⟩ := R.obj _ _ hA
    obtain ⟨u,e1,e2,e3⟩ := r1.last hy
    have hle := Le.upd R.nodup (W.listOf vs.dropLast.toArray (n + 1)) m1 (mut_list _ _)
    refine kl_pop (its := vs.toArray) S.fr S.nw (by show kl_last vs = some (vs.dropLast,u); rw [e1]; simpa using kl_last_of vs.dropLast u) (Upd_of R.nodup _ m1) (by show vs.length ≤ _; rw [r1.length]; exact big_list _ (by omega)) fun h' F N => ?_
    exact ⟨y,_,_,h,e2.mono hle,hle,S.to (t := s.toks) F N ⟨own,R.change hA m1 (mut_list _ _) ⟨vs.dropLast,n + 1,upd_self m1,e3.mono hle⟩⟩⟩
  · exact h.elim
theorem pop0_ok (S : St prog w g0 g L m H l s0 s) {Q : Post} {x : V} {v : Value} {t : Tok} (hx : VR l x v) (h : pop0V x H Q) :
    wpAny (model prog w) A (call (.builtin "list.pop") [v,.int 0 t]) (EP prog w g0 g L m s0 l Q) NoE s := by
  cases hx <;> simp only [pop0V] at h
  obtain ⟨own,R⟩ := S.rep
  split at h
  · rename_i a _ x xs hA
    obtain ⟨hl,h⟩ := h
    obtain ⟨vs,n,m1,r1⟩ := R.obj _ _ hA
    have r1' := r1
    cases r1' with
    | cons a1 b1 =>
      rename_i u us
      have hle := Le.upd R.nodup (W.listOf us.toArray (n + 1)) m1 (mut_list _ _)
      refine kl_popAt (its := (u :: us).toArray) (k := 0) (p := []) (q := us) (y := u) S.fr S.nw (by decide) (by simp [seqIndex?]) rfl (Upd_of R.nodup _ m1) (by show (u :: us).length ≤ _; rw [r1.length]; exact big_list _ (by simp; omega)) fun h' F N => ?_
      exact ⟨x,_,_,h,a1.mono hle,hle,S.to (t := s.toks) F N ⟨own,R.change hA m1 (mut_list _ _) ⟨us,n + 1,upd_self m1,b1.mono hle⟩⟩⟩
  · exact h.elim
theorem itemAt_seq {xs : List V} {vs : List Value} (r : VRs l xs vs) {i : Int} {z : V} (hz : itemAt xs i = some z) :
    -(2 ^ 63 : Int) ≤ i ∧ i < 2 ^ 63 ∧ ∃ j u,seqIndex? i vs.length = some j ∧ vs[j]? = some u ∧ VR l z u ∧ (0 ≤ i → j = i.toNat) ∧ (i < 0 → i = -1 ∧ j = (i + vs.length).toNat ∧ 0 < vs.length) := by
  unfold itemAt at hz
  have hlen := r.length
  split at hz
  · rename_i h0
    split at hz
    · obtain ⟨u,a,b⟩ := r.get hz
      have hlt : i.toNat < vs.length := by
        obtain ⟨h,_⟩ := List.getElem?_eq_some_iff.mp a; exact h
      refine ⟨by omega,by omega,i.toNat,u,?_,a,b,fun _ => rfl,fun h => by omega⟩
      unfold seqIndex?
      have h1 : ¬ i < 0 := by omega
      rw [if_neg h1,if_pos (by simp; omega)]
    · cases hz
  · split at hz
    · rename_i _ h1
      subst h1
      obtain ⟨u,e1,e2,e3⟩ := r.last hz
      have hp : 0 < vs.length := by rw [e1]; simp
      refine ⟨by omega,by omega,vs.length - 1,u,?_,?_,e2,fun h => by omega,fun _ => ⟨rfl,by omega,hp⟩⟩
      · rw [PySem.seqIndex_neg (by omega) (by omega)]
        congr 1; omega
      · rw [e1]; simp
    · cases hz
theorem item_ok (S : St prog w g0 g L m H l s0 s) {Q : Post} {x y : V} {v u : Value} (hx : VR l x v) (hy : VR l y u) (h : idxV x y H Q) :
    wpAny (model prog w) A (getItem v u) (EP prog w g0 g L m s0 l Q) NoE s ∧ ∃ T id,s.TypeIs v T ∧ typeLookup (.type T) "__getitem__" = pure (some (.builtin id)) := by
  cases hx with
  | none => simp only [idxV] at h
  | int _ _ => simp only [idxV] at h
  | bool _ => simp only [idxV] at h
  | str _ _ => simp only [idxV] at h
  | tup m1 r1 =>
    cases hy <;> simp only [idxV] at h
    rename_i i t
    obtain ⟨z,hz,h⟩ := h
    have ht : IsTup s.heap _ _ := ⟨_,S.nw.get m1,rfl,_,rfl⟩
    refine ⟨?_,"tuple",_,⟨_,S.nw.get m1,rfl⟩,F.slot_tuple_getitem.lookup⟩
    obtain ⟨b1,b2,j,u',e1,e2,e3,_⟩ := itemAt_seq r1 hz
    exact getItem_tuple ht b1 b2 (by simpa using e1) (by simpa using e2) (S.ep e3 h s.toks)
  | ref a =>
    obtain ⟨own,R⟩ := S.rep
    cases hy <;> simp only [idxV] at h
    · rename_i i t
      split at h
      · rename_i xs hA
        obtain ⟨z,hz,h⟩ := h
        obtain ⟨vs,n,m1,r1⟩ := R.obj _ _ hA
        obtain ⟨b1,b2,j,u',e1,e2,e3,e4,e5⟩ := itemAt_seq r1 hz
        refine ⟨?_,"list",_,⟨_,S.nw.get m1,rfl⟩,F.slot_list_getitem.lookup⟩
        by_cases hi : 0 ≤ i
        · exact wpAny_getItem_list (S.nw.isList m1) hi b2 (by rw [← e4 hi]; simpa using e2) (S.ep e3 h s.toks)
        · obtain ⟨e6,e7,e8⟩ := e5 (by omega)
          exact wpAny_getItem_list_neg (S.nw.isList m1) (by omega) (by simp; omega) b1 (by rw [show vs.toArray.size = vs.length by simp,← e7]; simpa using e2) (S.ep e3 h s.toks)
      · exact h.elim
    · rename_i k t
      split at h
      · rename_i mm hA
        obtain ⟨z,hz,h⟩ := h
        obtain ⟨o,kvs,m1,r1,r2,r3⟩ := R.obj a _ hA
        have hD := Heap.dictOf_iff.mpr ⟨o,S.nw.get m1,r1⟩
        have hm : s.heap.MapOf (strKind prog w) a (valueAt kvs) := hD.mapOf
        rcases r2.lk (fun _ _ => tx_inj.mp) k with ⟨e1,_⟩ | ⟨x',v',e1,e2,e3⟩
        · rw [hz] at e1; cases e1
        · rw [hz] at e1; cases e1
          exact ⟨wpAny_getItem_of (strKind_is prog w _ _) hm e2 (S.ep e3 h _),"dict",_,hm.typeIs,F.slot_dict_getitem.lookup⟩
      · exact h.elim
theorem dget_ok (S : St prog w g0 g L m H l s0 s) {Q : Post} {x y z : V} {v u r : Value} (hx : VR l x v) (hy : VR l y u) (hz : VR l z r) (h : dgetV x y z H Q) :
    wpAny (model prog w) A (call (.builtin "dict.get") [v,u,r]) (EP prog w g0 g L m s0 l Q) NoE s := by
  cases hx <;> cases hy <;> simp only [dgetV] at h
  obtain ⟨own,R⟩ := S.rep
  split at h
  · rename_i k _ _ mm hA
    obtain ⟨o,kvs,m1,r1,r2,r3⟩ := R.obj _ _ hA
    have hm : s.heap.MapOf (strKind prog w) _ (valueAt kvs) := (Heap.dictOf_iff.mpr ⟨o,S.nw.get m1,r1⟩).mapOf
    refine call_meetsIn F.slot_dict_get hm.typeIs F.entry_dict_get (F.args_dict_get_3 _ _ _) (meets_dict_get_default (strKind prog w) _ (strKind_is prog w _ _) r3 r) ⟨_,hm,?_⟩
    rcases r2.lk (fun _ _ => tx_inj.mp) k with ⟨e1,e2⟩ | ⟨x',v',e1,e2,e3⟩
    · rw [e1] at h; rw [e2]; exact S.ep hz h _
    · rw [e1] at h; rw [e2]; exact S.ep e3 h _
  · exact h.elim
end
end
section
section
variable {prog : Program} {w : World} {A : Around} {s0 s : Shared} {K : Frag} {g0 g : Heap} {L : Addr} {m : Str → Option Value} {H : AH} {l : Led}
theorem KR.store {K' : Type} [DecidableEq K'] {K : Type} [DecidableEq K] {f : K → K'} (inj : ∀ a b,f a = f b → a = b) {mm : List (K × V)} {kvs : List (K' × Value)} (e : KR f l mm kvs) (hn : (kvs.map (·.1)).Nodup) (k : K) {x : V} {v : Value} (hv : VR l x v) :
    KR f l (sset mm k x) (stored kvs (f k) v) := by
  have key : ∀ {mm : List (K × V)} {kvs : List (K' × Value)},KR f l mm kvs → (kvs.map (·.1)).Nodup →
      KR f l (sset mm k x) (if kvs.any (fun kv => kv.1 = f k) then kvs.map (fun kv => if kv.1 = f k then (kv.1,v) else kv) else kvs ++ [(f k,v)]) := by
    intro mm kvs e
    induction e with
    | nil => intro _; simp only [List.any_nil,Bool.false_eq_true,if_false,List.nil_append,sset]; exact .cons hv .nil
    | @cons k' x' v' mm es hv' he ih =>
      intro hn
      rw [List.map_cons,List.nodup_cons] at hn
      by_cases hk : k' = k
      · subst hk
        simp only [List.any_cons,decide_true,Bool.true_or,if_true,List.map_cons,sset]
        have : es.map (fun kv => if kv.1 = f k' then (kv.1,v) else kv) = es := by
          refine (List.map_congr_left fun p hp => ?_).trans (List.map_id es)
          have : p.1 ≠ f k' := fun q => hn.1 (List.mem_map.mpr ⟨p,hp,q⟩)
          simp [this]
        rw [this]
        exact .cons hv he
      · have hk' : f k' ≠ f k := fun q => hk (inj _ _ q)
        have ih' := ih hn.2
        simp only [List.any_cons,hk',decide_false,Bool.false_or,sset,hk,if_false,List.map_cons]
        split
        · rename_i h1; rw [if_pos h1] at ih'; exact .cons hv' ih'
        · rename_i h1; rw [if_neg h1] at ih'; exact .cons hv' ih'
  exact key e hn
theorem KR.length {K' K : Type} {f : K → K'} {mm : List (K × V)} {kvs : List (K' × Value)} (e : KR f l mm kvs) : kvs.length = mm.length := by
  induction e with
  | nil => rfl
  | cons _ _ ih => simp [ih]
theorem setItem_ok (hu : A.units + 64 < cLine) (S : St prog w g0 g L m H l s0 s) {Q : AH → Prop} {x y z : V} {v u r : Value} (hx : VR l x v) (hy : VR l y u) (hz : VR l z r) (h : setItemV x y z H Q) :
    wpAny (model prog w) A (setItem v u r) (fun _ s' => UP prog w g0 g L m s0 l Q s') NoE s := by
  cases hx with
  | none => simp only [setItemV] at h
  | int _ _ => simp only [setItemV] at h
  | bool _ => simp only [setItemV] at h
  | str _ _ => simp only [setItemV] at h
  | tup _ _ => simp only [setItemV] at h
  | ref a =>
    have hr := S.rep
    obtain ⟨own,R⟩ := hr
    cases hy with
    | none => simp only [setItemV] at h
    | bool _ => simp only [setItemV] at h
    | ref _ => simp only [setItemV] at h
    | int i t =>
      simp only [setItemV] at h
      split at h
      · rename_i xs hA
        obtain ⟨h0,h1,h2,hQ⟩ := h
        obtain ⟨vs,n,m1,r1⟩ := R.obj _ _ hA
        obtain ⟨l',k1,k2,k3,k4,_⟩ := S.listUpd (f := fun a => a.setIfInBounds i.toNat r) hA m1 (vs' := vs.set i.toNat r) (by apply Array.toList_inj.mp; simp) (r1.set hz)
        exact ki_setAt (S.nw.get m1) h0 (by omega) (by rw [List.size_toArray,r1.length]; omega) ⟨_,_,hQ,k1,S.to (t := s.toks) k2 k3 k4⟩
      · rename_i mm hA
        obtain ⟨hsz,hQ⟩ := h
        obtain ⟨o,kvs,m1,r1,r2,r3⟩ := R.obj a _ hA
        have hD := Heap.dictOf_iff.mpr ⟨o,S.nw.get m1,r1⟩
        refine wpAny_setItem_pairs (intKind_is prog w i t) hD (fun h' hD' hs => ?_) (by rw [r2.length]; exact big_list _ (by omega))
        obtain ⟨o',ho',hI⟩ := Heap.dictOf_iff.mp hD'
        have z := S.nw _ m1
        obtain ⟨_,_,hex,_⟩ := r1
        have hle := Le.upd R.nodup o' m1 (mut_dict hex.1)
        have hn : (kvs.map (·.1)).Nodup := by obtain ⟨_,_,_,_,_,_,_,_,q⟩ := hD; exact q
        exact ⟨_,_,hQ,hle,S.to (S.fr.change hs z.2.1 z.2.2) (S.nw.replace hs ho') ⟨own,R.change hA m1 (mut_dict hex.1) ⟨o',_,upd_self m1,hI,(r2.store (f := id) (fun _ _ h => h) hn i hz).mono hle,r3⟩⟩⟩
      · exact h.elim
    | str k t =>
      simp only [setItemV] at h
      split at h
      · rename_i mm hA
        obtain ⟨hsz,hQ⟩ := h
        obtain ⟨o,kvs,m1,r1,r2,r3⟩ := R.obj a _ hA
        have hD := Heap.dictOf_iff.mpr ⟨o,S.nw.get m1,r1⟩
        refine wpAny_setItem_pairs (strKind_is prog w (tx k) t) hD (fun h' hD' hs => ?_) (by rw [r2.length]; exact big_list _ (by omega))
        obtain ⟨o',ho',hI⟩ := Heap.dictOf_iff.mp hD'
        have z := S.nw _ m1
        obtain ⟨_,_,hex,_⟩ := r1
        have hle := Le.upd R.nodup o' m1 (mut_dict hex.1)
        have hn : (kvs.map (·.1)).Nodup := by obtain ⟨_,_,_,_,_,_,_,_,q⟩ := hD; exact q
        exact ⟨_,_,hQ,hle,S.to (S.fr.change hs z.2.1 z.2.2) (S.nw.replace hs ho') ⟨own,R.change hA m1 (mut_dict hex.1) ⟨o',_,upd_self m1,hI,(r2.store (fun _ _ => tx_inj.mp) hn k hz).mono hle,r3⟩⟩⟩
      · exact h.elim
    | @tup xs0 a0 vs0 mt rt =>
      simp only [setItemV] at h
      split at h
      · rename_i n hA
        obtain ⟨⟨p,q,e⟩,hsz,hQ⟩ := h
        subst e
        obtain ⟨o,es,ep,xs,m1,r1,r2,r3,r4,r5,r6⟩ := R.obj a _ hA
        have tk : TupKeyObj (strKind prog w) [tx p,tx q] (tupObj vs0) := by
          cases rt with
          | cons a1 b1 =>
            cases b1 with
            | cons a2 b2 =>
              cases a1; cases a2; cases b2
              exact ⟨rfl,_,_,rfl,.cons (strKind_is _ _ _ _) (.cons (strKind_is _ _ _ _) .nil)⟩
        have hD : s.heap.DictOfH (tupleKind (strKind prog w)) a xs := ⟨o,es,ep,S.nw.get m1,r1,r2,r3,fun x hx => let ⟨_,hmk,t⟩ := r5 x hx; t.key (S.nw.get hmk),r4⟩
        refine wpAny_setItem_heap (knd := tupleKind (strKind prog w)) (tupleKind_room_in1 (by omega)) (tk.key (S.nw.get mt)) hD (fun h' hD' hs => ?_) (big_list _ (by omega))
        obtain ⟨o',es',ep',ho',hc',hd',he',_,hn'⟩ := hD'
        have z := S.nw _ m1
        have hle := Le.upd R.nodup o' m1 (mut_dict r1.1)
        refine ⟨_,_,hQ,hle,S.to (S.fr.change hs z.2.1 z.2.2) (S.nw.replace hs ho') ⟨own,R.change hA m1 (mut_dict r1.1) ⟨o',es',ep',_,upd_self m1,hc',hd',he',hn',fun x hx => ?_,?_⟩⟩⟩
        · have fz : ∀ {b : Addr} {ob : Obj} {ks' : List Str},(b,ob) ∈ l → TupKeyObj (strKind prog w) ks' ob → (b,ob) ∈ upd l a o' := fun hb t => hle _ hb (by
            have := t.1
            simp only [mutObj,this,Bool.or_eq_false_iff]
            exact ⟨by decide,by decide⟩)
          rcases mem_storedH hx with ⟨y,hy,e1,e2⟩ | ⟨e1,e2⟩
          · obtain ⟨oky,hmk,t⟩ := r5 y hy
            exact ⟨oky,by rw [e2]; exact fz hmk t,by rw [e1]; exact t⟩
          · exact ⟨_,by rw [e2]; exact fz mt tk,by rw [e1]; exact tk⟩
        · unfold storedH
          split
          · rw [List.length_map]; omega
          · rw [List.length_append]; simp; omega
      · exact h.elim
end
end
section
section
variable {prog : Program} {w : World} {A : Around} {s0 s : Shared} {K : Frag} {g0 g : Heap} {L : Addr} {m : Str → Option Value} {H : AH} {l : Led}
theorem drop_take_min {α : Type} (xs : List α) (a b : Nat) : (xs.drop (min a xs.length)).take (min b xs.length - min a xs.length) = (xs.take b).drop a := by
  rw [List.drop_take]
  apply List.ext_getElem?
  intro i
  simp only [List.getElem?_take,List.getElem?_drop]
  by_cases h1 : i < min b xs.length - min a xs.length
  · rw [if_pos h1,if_pos (by omega),show min a xs.length = a by omega]
  · rw [if_neg h1]
    by_cases h2 : i < b - a
    · rw [if_pos h2]; symm; rw [List.getElem?_eq_none_iff]; omega
    · rw [if_neg h2]
theorem kms_lo_eq {lo : Option Int} (a : okB lo) (n : Nat) : kms_lo lo n = min (match lo with | some i => i.toNat | none => 0) n := by
  cases lo with
  | none => simp [kms_lo]
  | some x => simp only [okB] at a; simp only [kms_lo]; rw [if_neg (by omega)]
theorem kms_hi_eq {hi : Option Int} (b : okB hi) (n : Nat) : kms_hi hi n = min (match hi with | some i => i.toNat | none => n) n := by
  cases hi with
  | none => simp [kms_hi]
  | some x => simp only [okB] at b; simp only [kms_hi]; rw [if_neg (by omega)]
theorem pick_cut {α : Type} {lo hi : Option Int} (a : okB lo) (b : okB hi) (vs : List α) : (vs.drop (kms_lo lo vs.length)).take (kms_hi hi vs.length - kms_lo lo vs.length) = cut lo hi vs := by
  unfold cut
  rw [kms_lo_eq a,kms_hi_eq b,drop_take_min]
  cases lo <;> cases hi <;> rfl
theorem kms_cut {lo hi : Option Int} (a : okB lo) (b : okB hi) (vs : List Value) : kms_pick vs lo hi = cut lo hi vs := pick_cut a b vs
theorem cut_mapV {α β : Type} (f : α → β) (lo hi : Option Int) (xs : List α) : cut lo hi (xs.map f) = (cut lo hi xs).map f := by
  unfold cut
  cases hi with
  | none => simp only; rw [List.take_of_length_le (by simp),List.take_of_length_le (by simp),List.map_drop]
  | some i => simp only [List.map_take,List.map_drop]
theorem VRs.cut {xs : List V} {vs : List Value} (h : VRs l xs vs) (lo hi : Option Int) : VRs l (Mine.cut lo hi xs) (Mine.cut lo hi vs) := by
  unfold Mine.cut
  cases hi with
  | none => simp only; rw [h.length]; exact (h.take _).drop _
  | some i => exact (h.take _).drop _
theorem ints_vrs : ∀ {vs : List Value} {ns : List Int},IntsAre vs ns → VRs l (ns.map V.int) vs
  | _,_,.nil => .nil
  | _,_,.cons n t r => .cons (.int n t) (ints_vrs r)
theorem strSlice_eq {lo hi : Option Int} (a : okB lo) (b : okB hi) (s : Tx) : Txt.slice (tx s) lo hi = tx (cut lo hi s) := by
  have e : Builtin.Str.strSliceIndices lo hi 1 (tx s).length = sliceRange ((kms_lo lo s.length : Nat) : Int) ((kms_hi hi s.length : Nat) : Int) 1 := by
    unfold Builtin.Str.strSliceIndices
    rw [tx_length]
    have aux : ∀ {a a' b b' : Int},a = a' → b = b' → sliceRange a b 1 = sliceRange a' b' 1 := by rintro _ _ _ _ rfl rfl; rfl
    refine aux ?_ ?_
    · cases lo with
      | none => simp [kms_lo]
      | some x =>
        simp only [okB] at a
        have h1 : ¬ x < 0 := by omega
        simp only [kms_lo,h1,if_false,show (1 : Int) > 0 by decide,if_true]
        omega
    · cases hi with
      | none => simp [kms_hi]
      | some x =>
        simp only [okB] at b
        have h1 : ¬ x < 0 := by omega
        simp only [kms_hi,h1,if_false,show (1 : Int) > 0 by decide,if_true]
        omega
  have e2 : (sliceRange ((kms_lo lo s.length : Nat) : Int) ((kms_hi hi s.length : Nat) : Int) 1).filterMap ((tx s).cps[·]?) = cut lo hi s := by
    rw [PySem.sliceRange_one,PySem.pick_run]
    exact pick_cut a b s
  unfold Txt.slice
  rw [e]
  split
  · rename_i h
    rw [← pick_cut a b s]
    rw [PySem.sliceRange_one] at h
    simp only [beq_self_eq_true,Bool.true_and,beq_iff_eq,List.length_map,List.length_range,tx_length] at h
    have h4 := kms_hi_eq b s.length
    have h3 : kms_lo lo s.length = 0 ∨ s = [] := by
      by_cases q : s.length = 0
      · exact .inr (List.length_eq_zero_iff.mp q)
      · left; omega
    rcases h3 with h3 | h3
    · rw [h3,List.drop_zero,Nat.sub_zero,List.take_of_length_le (by omega)]
    · subst h3; simp
  · rw [e2]; rfl
theorem slice_ok (S : St prog w g0 g L m H l s0 s) {Q : Post} {x : V} {v vl vu : Value} {lo hi : Option Int} {value : Expr} {ea eb : Option Expr} {p : Pos} (hx : VR l x v) (pl : IsPart vl lo) (pu : IsPart vu hi) (h : sliceV x lo hi H Q) :
    wpAny (model prog w) A (subscriptTail value (.Slice ea eb none p) v (.ref s.heap.objs.size)) (EP prog w g0 g L m s0 l Q) NoE { s with heap := s.heap.push { cls := .type "slice",data := .fields #[vl,vu,.none] } } := by
  obtain ⟨ha,hb,h⟩ := h
  have list : ∀ {a : Addr} {vs : List Value} {xs : List V},s.heap.IsList a vs.toArray → vs.length ≤ 1000000 → VRs l (cut lo hi xs) (cut lo hi vs) → (∀ c,H c = none → Q (.ref c) (put H c (.list (cut lo hi xs)))) →
      wpAny (model prog w) A (subscriptTail value (.Slice ea eb none p) (.ref a) (.ref s.heap.objs.size)) (EP prog w g0 g L m s0 l Q) NoE { s with heap := s.heap.push { cls := .type "slice",data := .fields #[vl,vu,.none] } } := by
    intro a vs xs hl hsz hr hQ
    refine tail_any (T := "list") (hl.push _).typeIs F.slot_list_getitem.lookup ?_ rfl
    have F1 := S.fr.push { cls := .type "slice",data := .fields #[vl,vu,.none] }
    have N1 : News g L (s.heap.push { cls := .type "slice",data := .fields #[vl,vu,.none] }) l := fun q hq => S.nw.push S.fr { cls := .type "slice",data := .fields #[vl,vu,.none] } rfl q (.tail _ hq)
    have S1 : St prog w g0 g L m H l s0 { s with heap := s.heap.push { cls := .type "slice",data := .fields #[vl,vu,.none] } } := S.to (t := s.toks) F1 N1 S.rep
    refine wpAny_getItem_list_slice (hl.push _) (Heap.IsSliceOf.new ..) pl pu .none (by simp) ?_ (by rw [List.size_toArray]; exact big_list _ (by omega))
    rw [kms_pick_eq,kms_cut ha hb]
    exact S1.newEP (ox := .list (cut lo hi xs)) (F1.push _) (N1.push F1 _) S1.fresh (fun _ => ⟨cut lo hi vs,0,.head _,hr.mono (Le.cons _ _)⟩) hQ s.toks
  cases hx with
  | none => exact h.elim
  | int _ _ => exact h.elim
  | bool _ => exact h.elim
  | tup _ _ => exact h.elim
  | str q t =>
    have fin : ∀ h' t' k,(Fr g L h' m ∧ News g L h' l) → EP prog w g0 g L m s0 l Q (.str (Txt.slice (tx q) lo hi) t') { s with heap := h',toks := k } := fun h' t' k a => by
      rw [strSlice_eq ha hb]; exact ⟨_,_,_,h.2,.str _ _,Le.refl _,S.to (t := k) a.1 a.2 S.rep⟩
    have hz : (tx q).length ≤ sizeLine := by rw [tx_length]; exact big_list _ h.1
    cases pl with
    | none =>
      cases pu with
      | none =>
        obtain ⟨T,id,i1,i2,i3⟩ := SBH.sliceItem_nn (prog := prog) (w := w) (A := A) (E := NoE) (s := s) (x := tx q) (t := t) keptFrN ⟨S.fr,S.nw⟩ fin hz
        exact tail_any i2 i1 i3 rfl
      | int j tj =>
        obtain ⟨T,id,i1,i2,i3⟩ := SBH.sliceItem_ns (prog := prog) (w := w) (A := A) (E := NoE) (s := s) (x := tx q) (t := t) (j := j) (uj := tj) keptFrN ⟨S.fr,S.nw⟩ fin hz
        exact tail_any i2 i1 i3 rfl
    | int i ti =>
      cases pu with
      | none =>
        obtain ⟨T,id,i1,i2,i3⟩ := SBH.sliceItem_sn (prog := prog) (w := w) (A := A) (E := NoE) (s := s) (x := tx q) (t := t) (i := i) (ui := ti) keptFrN ⟨S.fr,S.nw⟩ fin hz
        exact tail_any i2 i1 i3 rfl
      | int j tj =>
        obtain ⟨T,id,i1,i2,i3⟩ := SBH.sliceItem_ss (prog := prog) (w := w) (A := A) (E := NoE) (s := s) (x := tx q) (t := t) (i := i) (j := j) (ui := ti) (uj := tj) keptFrN ⟨S.fr,S.nw⟩ fin hz
        exact tail_any i2 i1 i3 rfl
  | ref a =>
    obtain ⟨own,R⟩ := S.rep
    simp only at h
    split at h
    · rename_i xs hA
      obtain ⟨vs,n,m1,r1⟩ := R.obj _ _ hA
      exact list (S.nw.isList m1) (by rw [r1.length]; exact h.1) (r1.cut lo hi) h.2
    · rename_i ns hA
      obtain ⟨vs,hl,hi'⟩ := R.obj _ _ hA
      have hr := ints_vrs (l := l) hi'
      refine list (xs := ns.map V.int) (hl.at fun o e => S.fr.keep _ _ (S.sub _ _ e)) (by rw [hi'.length]; exact h.1) (hr.cut lo hi) ?_
      rw [cut_mapV]; exact h.2
    · exact h.elim
end
end
section
def Bi.val : Bi → Value
  | .b_abs => .builtin "abs"
  | .b_int => .type "int"
  | .b_chr => .builtin "chr"
  | .b_str => .type "str"
  | .b_len => .builtin "len"
  | .b_ord => .builtin "ord"
  | .b_max => .builtin "max"
  | .b_list => .type "list"
section
variable {prog : Program} {w : World} {A : Around} {s0 s : Shared} {K : Frag} {g0 g : Heap} {L : Addr} {m : Str → Option Value} {H : AH} {l : Led}
theorem digit_text {i : Int} (h0 : 0 ≤ i) (h9 : i ≤ 9) : Str.ofString (toString i) = tx [48 + i.toNat] := by
  have : i = 0 ∨ i = 1 ∨ i = 2 ∨ i = 3 ∨ i = 4 ∨ i = 5 ∨ i = 6 ∨ i = 7 ∨ i = 8 ∨ i = 9 := by omega
  rcases this with rfl | rfl | rfl | rfl | rfl | rfl | rfl | rfl | rfl | rfl <;> decide +kernel
theorem bi_ok (hh : A.handled = none) (S : St prog w g0 g L m H l s0 s) {Q : Post} {b : Bi} {xs : List V} {vs : List Value} (hx : VRs l xs vs) (h : biV b xs H Q) :
    wpAny (model prog w) A (call b.val vs) (EP prog w g0 g L m s0 l Q) NoE s := by
  cases b with
  | b_abs =>
    cases hx with
    | nil => exact h.elim
    | cons a1 r1 =>
      cases a1 <;> cases r1 <;> try exact h.elim
      exact call_abs_int fun u tk => S.ep (.int _ _) h tk
  | b_int =>
    cases hx with
    | nil => exact h.elim
    | cons a1 r1 =>
      cases a1 <;> cases r1 <;> try exact h.elim
      exact call_int_int (S.ep (.int _ _) h s.toks)
  | b_chr =>
    cases hx with
    | nil => exact h.elim
    | cons a1 r1 =>
      cases a1 <;> cases r1 <;> try exact h.elim
      exact chr_of_range h.1 (by have := h.2.1; omega) (S.ep (.str _ _) h.2.2 _)
  | b_str =>
    cases hx with
    | nil => exact h.elim
    | cons a1 r1 =>
      cases a1 <;> cases r1 <;> try exact h.elim
      rename_i i t
      refine PySem.P.str_of_int ?_ ?_
      · have h1 : i.natAbs < 2 ^ 4 := by have := h.1; have := h.2.1; omega
        have := Nat.log2_lt (n := i.natAbs) (k := 4)
        by_cases q : i.natAbs = 0
        · rw [q]; decide
        · have := (Nat.log2_lt q).mpr h1; omega
      · rw [digit_text h.1 h.2.1]; exact S.ep (.str _ _) h.2.2 _
  | b_len =>
    cases hx with
    | nil => exact h.elim
    | cons a1 r1 =>
      cases a1 <;> cases r1 <;> try exact h.elim
      · rename_i t q
        refine PyProof.Rows.len_str ?_ ?_
        · rw [tx_length]; have := h.1; omega
        · rw [tx_length]; exact S.ep (.int _ _) h.2 _
      · obtain ⟨own,R⟩ := S.rep
        simp only [biV] at h
        split at h
        · rename_i xs hA
          obtain ⟨vs,n,m1,r1⟩ := R.obj _ _ hA
          have e : vs.toArray.size = xs.length := by rw [List.size_toArray,r1.length]
          refine len_list (S.nw.isList m1) (by rw [e]; have := h.1; omega) ?_
          rw [e]; exact S.ep (.int _ _) h.2 _
        · exact h.elim
  | b_ord =>
    cases hx with
    | nil => exact h.elim
    | cons a1 r1 =>
      cases a1 <;> cases r1 <;> try exact h.elim
      simp only [biV] at h
      split at h
      · refine ord_of_one (by rw [tx_length]; rfl) (S.ep (.int _ _) ?_ _)
        exact h
      · exact h.elim
  | b_max =>
    cases hx with
    | nil => exact h.elim
    | cons a1 r1 =>
      cases r1 with
      | nil => cases a1 <;> exact h.elim
      | cons a2 r2 =>
        cases a1 <;> cases a2 <;> cases r2 <;> try exact h.elim
        exact max_two_N hh S.fr S.nw fun h' tk F N => ⟨_,_,_,h,.int _ _,Le.refl _,S.to (t := tk) F N S.rep⟩
  | b_list =>
    cases hx with
    | nil => exact h.elim
    | cons a1 r1 =>
      cases a1 <;> cases r1 <;> try exact h.elim
      obtain ⟨own,R⟩ := S.rep
      simp only [biV] at h
      split at h
      · rename_i xs hA
        obtain ⟨vs,n,m1,r1⟩ := R.obj _ _ hA
        refine list_copyK S.fr S.nw (S.nw.isList m1) (fun D c h' F N l1 => ?_) (by rw [List.size_toArray,r1.length]; have := h.1; exact big_list _ (by omega))
        refine S.newEP (ox := .list xs) F N (fun hm => ?_) (fun _ => ⟨vs,c,.head _,r1.mono (Le.cons _ _)⟩) h.2 s.toks
        obtain ⟨p,hp,e⟩ := List.mem_map.mp hm
        exact absurd (l1 p hp) (by rw [e]; exact Nat.lt_irrefl _)
      · exact h.elim
end
end
section

def Bi.name : Bi → Str
  | .b_abs => "abs"
  | .b_int => "int"
  | .b_chr => "chr"
  | .b_str => "str"
  | .b_len => "len"
  | .b_ord => "ord"
  | .b_max => "max"
  | .b_list => "list"
def isLoc (sc : Scope) (n : Str) : Bool := decide (sc.names.lookup n = some .local) && !(n == ("__debug__" : Str))
def isGl (sc : Scope) (n : Str) : Bool := decide (sc.names.lookup n = some .globalImplicit) && !(n == ("__debug__" : Str))
def plainBase : Expr → Bool
  | .Call (.Name _ _) _ _ _ => false
  | _ => true
def gints : List (Str × Int) := [(Str.ofString "MOST_WORDS",60),(Str.ofString "MOST_INTEGER",2147483647),(Str.ofString "MOST_WORD",4294967295)]
mutual
def okE (sc : Scope) (r : Nat) : E → Expr → Bool
  | .loc x,ex => (match ex with | .Name n _ => n == x.str && isLoc sc n | _ => false)
  | .gint n i,ex => (match ex with | .Name n' _ => n' == n && isGl sc n && gints.contains (n,i) | _ => false)
  | .int i,ex => (match ex with | .Constant (.int j) _ _ => i == j | _ => false)
  | .str s,ex => (match ex with | .Constant (.str t) _ _ => t == tx s | _ => false)
  | .bool b,ex => (match ex with | .Constant (.bool c) _ _ => b == c | _ => false)
  | .none,ex => (match ex with | .Constant .none _ _ => true | _ => false)
  | .pow a b,ex => (match ex with | .BinOp (.Constant (.int x) _ _) .Pow (.Constant (.int y) _ _) _ => x == (a : Int) && y == (b : Int) && a ≤ 100 && b ≤ 1000 | _ => false)
  | .neg i,ex => (match ex with | .UnaryOp .USub (.Constant (.int x) _ _) _ => x == (i : Int) | _ => false)
  | .attr e n,ex => (match ex with | .Attribute v a _ => a == n.str && plainBase v && okE sc r e v | _ => false)
  | .bin o a b,ex => (match ex with | .BinOp x op y _ => op == o.real && okE sc r a x && okE sc r b y | _ => false)
  | .not a,ex => (match ex with | .UnaryOp .Not x _ => okE sc r a x | _ => false)
  | .and es,ex => (match ex with | .BoolOp .And xs _ => okEs sc r es xs | _ => false)
  | .or es,ex => (match ex with | .BoolOp .Or xs _ => okEs sc r es xs | _ => false)
  | .cmp o a b,ex => (match ex with | .Compare x [op] [y] _ => op == o.real && !behindInMarks op y && okE sc r a x && okE sc r b y | _ => false)
  | .ite t a b,ex => (match ex with | .IfExp x y z _ => okE sc r t x && okE sc r a y && okE sc r b z | _ => false)
  | .list es,ex => (match ex with | .List xs _ => xs.length ≤ 1000 && okEs sc r es xs | _ => false)
  | .tup es,ex => (match ex with | .Tuple xs _ _ => xs.length ≤ 1000 && okEs sc r es xs | _ => false)
  | .dict ks es,ex => (match ex with | .Dict keys vs _ => okKeys ks keys && ks.length == 17 && es.length == 17 && okEs sc r es vs | _ => false)
  | .dict0 _,ex => (match ex with | .Dict [] [] _ => true | _ => false)
  | .idx a i,ex => (match ex with | .Subscript v s _ => okE sc r a v && okE sc r i s | _ => false)
  | .slice a lo hi,ex => (match ex with | .Subscript v (.Slice l u none _) _ => okE sc r a v && okO sc r lo l && okO sc r hi u | _ => false)
  | .call f es,ex => (match ex with | .Call (.Name n _) as [] _ => n == f.gname && isGl sc n && f.isGlob && decide (f.rank < r) && okEs sc r es as | _ => false)
  | .meth c o n es,ex => (match ex with
      | .Call (.Attribute ov a ap) as [] p => a == n.str && ap.endLine == p.line && plainBase ov && as.length ≤ 20 && (match Cls.meth c n with | some f => decide (f.rank < r) | none => true) && okE sc r o ov && okEs sc r es as
      | _ => false)
  | .new c es,ex => (match ex with | .Call (.Name n _) as [] _ => n == c.gname && isGl sc n && decide (c.init.rank < r) && okEs sc r es as | _ => false)
  | .bi b es,ex => (match ex with | .Call (.Name n _) as [] _ => n == b.name && isGl sc n && okEs sc r es as | _ => false)
  | .append o x,ex => (match ex with | .Call (.Attribute ov a ap) [y] [] p => a == ("append" : Str) && ap.endLine == p.line && plainBase ov && okE sc r o ov && okE sc r x y | _ => false)
  | .pop o,ex => (match ex with | .Call (.Attribute ov a ap) [] [] p => a == ("pop" : Str) && ap.endLine == p.line && plainBase ov && okE sc r o ov | _ => false)
  | .pop0 o,ex => (match ex with | .Call (.Attribute ov a ap) [.Constant (.int 0) _ _] [] p => a == ("pop" : Str) && ap.endLine == p.line && plainBase ov && okE sc r o ov | _ => false)
  | .dget o k d,ex => (match ex with | .Call (.Attribute ov a ap) [x,y] [] p => a == ("get" : Str) && ap.endLine == p.line && plainBase ov && okE sc r o ov && okE sc r k x && okE sc r d y | _ => false)
  | .sfind o x,ex => (match ex with
      | .Call (.Attribute (.Constant (.str t) _ _) a ap) [y] [] p => a == ("find" : Str) && ap.endLine == p.line && t == Str.ofString "0123456789ABCDEF" && okE sc r x y
      | _ => false)
  | .compA e x n,ex => (match ex with
      | .ListComp (.Attribute (.Name y _) a _) [⟨.Name z _,it,[],0⟩] cs _ => y == x.str && z == x.str && a == n.str && okE sc r e it && cs.kind == .function && cs.names == [(Str.ofString ".0",.local),(x.str,.local)] && !cs.isGenerator && !cs.isCoroutine
      | _ => false)
  | .compI e x i,ex => (match ex with
      | .ListComp (.Subscript (.Name y _) (.Constant (.int j) _ _) _) [⟨.Name z _,it,[],0⟩] cs _ => y == x.str && z == x.str && j == (i : Int) && i ≤ 1000 && okE sc r e it && cs.kind == .function && cs.names == [(Str.ofString ".0",.local),(x.str,.local)] && !cs.isGenerator && !cs.isCoroutine
      | _ => false)
def okEs (sc : Scope) (r : Nat) : List E → List Expr → Bool
  | [],xs => xs.isEmpty
  | e :: es,xs => (match xs with | x :: xs => okE sc r e x && okEs sc r es xs | [] => false)
def okO (sc : Scope) (r : Nat) : Option E → Option Expr → Bool
  | none,x => x.isNone
  | some e,x => (match x with | some x => okE sc r e x | none => false)
def okKeys : List Tx → List (Option Expr) → Bool
  | [],xs => xs.isEmpty
  | k :: ks,xs => (match xs with | some (.Constant (.str t) _ _) :: xs => t == tx k && okKeys ks xs | _ => false)
end
end
section

structure KOk (K : Frag) : Prop where
  cls : ∀ c,clsOk K c = true
  attr : ∀ c,∀ n ∈ c.attrs,attrOk K c n = true
  meth : ∀ c n f,Cls.meth c n = some f → methOk K c n f = true
  gl : ∀ f : Fn,f.isGlob = true → nsIn K mainGlobals f.gname = some (some (.ref f.addr))
  gint : ∀ p ∈ gints,∃ t,nsIn K mainGlobals p.1 = some (some (.int p.2 t))
  bi : ∀ b : Bi,nsIn K mainGlobals b.name = some none
  rng : nsIn K mainGlobals "range" = some none
  rev : nsIn K mainGlobals "reversed" = some none
  keepF : ∀ f : Fn,keepIn K (.ref f.addr) = true
  keepC : ∀ c : Cls,keepIn K (.ref c.addr) = true
theorem Bi.boot (b : Bi) : bootBuiltins b.name = some b.val := by cases b <;> decide +kernel
theorem Bi.noname (b : Bi) : b.name ≠ "__name__" := by cases b <;> decide +kernel
structure Amb (K : Frag) (p : Program) (loose : List Str) (mean : ExcName → Option Value) (mg mb : Str → Option Value) (A : Around) (g : Heap) (d u : Nat) : Prop where
  hnd : A.handled = none
  depth : A.depth + d < recursionLimit
  units : A.units + u < cLine
  kin : K.In g
  top : Top p loose mean mg mb g
structure Frm (A : Around) (g : Heap) (L : Addr) (env : Env) : Prop where
  ex : ∃ A₀ base outer,Below A₀ base outer g ∧ A.frames = some (env :: outer)
  fr : env.frame = some L
  kind : env.scope.kind = .function
def spR (prog : Program) (w : World) (K : Frag) (p : Program) (loose : List Str) (mean : ExcName → Option Value) (mg mb : Str → Option Value) : Sp := fun f vs H Q =>
  ∀ (A : Around) (g0 g : Heap) (L : Addr) (m : Str → Option Value) (l : Led) (s0 s : Shared) (env : Env) (vals : List Value),
    Amb K p loose mean mg mb A g (4 * f.rank + 10) (20 * f.rank + 110) → Frm A g L env → St prog w g0 g L m H l s0 s → VRs l vs vals →
    codeAny (model prog w) A (.call (.ref f.addr) ⟨vals,[]⟩) (fun r s' => match r with | .ok (.ret v) => EP prog w g0 g L m s0 l Q v s' | _ => False) s
section
variable {prog : Program} {w : World} {A : Around} {s0 s : Shared} {K : Frag} {g0 g : Heap} {L a : Addr} {m : Str → Option Value} {H : AH} {l : Led} {ρ : Rho} {sc : Scope} {r : Nat} {cn : Str} {ccd : Value}
  {p : Program} {loose : List Str} {mean : ExcName → Option Value} {mg mb : Str → Option Value}
theorem okE_star (e : E) (v : Expr) (q : Pos) : okE sc r e (.Starred v q) = false := by cases e <;> rfl
theorem okEs_length : ∀ {es : List E} {xs : List Expr},okEs sc r es xs = true → xs.length = es.length
  | [],xs,h => by simp only [okEs,List.isEmpty_iff] at h; rw [h]; rfl
  | e :: es,[],h => by simp only [okEs] at h; cases h
  | e :: es,x :: xs,h => by
    simp only [okEs,Bool.and_eq_true] at h
    simp [okEs_length h.2]
theorem starEach_ok (env : Env) : ∀ {es : List E} {xs : List Expr},okEs sc r es xs = true → starEach xs env = xs.map fun e => (false,eval e env)
  | [],xs,h => by simp only [okEs,List.isEmpty_iff] at h; rw [h]; rfl
  | e :: es,[],h => by simp only [okEs] at h; cases h
  | e :: es,x :: xs,h => by
    simp only [okEs,Bool.and_eq_true] at h
    have ih := starEach_ok env h.2
    have : starEach (x :: xs) env = (false,eval x env) :: starEach xs env := by
      cases x <;> first | rfl | (rw [okE_star] at h; cases h.1)
    rw [this,ih]; rfl
def trees (env : Env) (xs : List Expr) : List (Bool × Sem Value) := xs.map fun e => (false,eval e env)
theorem backTo_ok (env : Env) (pos : Pos) {es : List E} {xs : List Expr} (h : okEs sc r es xs = true) : backTo pos (starEach xs env) = trees env xs := by
  rw [starEach_ok env h]
  unfold backTo trees
  rw [List.map_map]
  rfl
theorem trees_plain (env : Env) (xs : List Expr) : (trees env xs).any (·.1) = false := by simp [trees]
def EsP (prog : Program) (w : World) (g0 g : Heap) (L : Addr) (m : Str → Option Value) (s0 : Shared) (l : Led) (Q : List V → AH → Prop) (vs : List Value) (s' : Shared) : Prop :=
  ∃ ys H' l',Q ys H' ∧ VRs l' ys vs ∧ Le l l' ∧ St prog w g0 g L m H' l' s0 s'
theorem callWith_fin {sp : Sp} {es : List E} {pos : Pos} {f : Value} {first : List Value} {env : Env} {xs : List Expr} {Q : Value → Shared → Prop} {Qs : List V → AH → Prop} (hk : keepIn K f = true) (X : K.In g) (S : St prog w g0 g L m H l s0 s)
    (hs : okEs sc r es xs = true) (h : wpEs sp ρ es H Qs) (ih : wpAny (model prog w) A (spliced (trees env xs)) (EsP prog w g0 g L m s0 l Qs) NoE s)
    (fin : ∀ ys H' l' vs s',Qs ys H' → VRs l' ys vs → Le l l' → St prog w g0 g L m H' l' s0 s' → wpAny (model prog w) A (call f (first ++ vs)) Q NoE s') :
    wpAny (model prog w) A (callWith pos f first (backTo pos (starEach xs env)) []) Q NoE s := by
  rw [backTo_ok env pos hs]
  refine callWith_of (by rw [trees_plain]; rfl) (keeps_K hk) ?_
  cases xs with
  | nil =>
    cases es with
    | cons e es => simp only [okEs] at hs; cases hs
    | nil =>
      simp only [wpEs] at h
      exact evalArgs_nil3 ⟨X.keeps S.fr.keep,fin [] H l [] s h .nil (Le.refl l) S⟩
  | cons x xs =>
    refine evalArgs_plain (wpAny_mono ih (fun vs s' q => ?_) fun _ _ e => e)
    obtain ⟨ys,H',l',q1,q2,q3,q4⟩ := q
    exact ⟨X.keeps q4.fr.keep,fin ys H' l' vs s' q1 q2 q3 q4⟩
theorem attributeBase_ok {v : Expr} (h : plainBase v = true) (n : Str) (env : Env) (whole : Sem Value) : attributeBase v n env whole = whole := by
  cases v <;> try rfl
  rename_i f as ks p
  cases f <;> first | rfl | cases h
theorem methodCall_ok {o : Expr} {name : Str} {apos pos : Pos} {xs : List Expr} {es : List E} {Q : Value → Shared → Prop} {env : Env} (hb : plainBase o = true) (hl : (apos.endLine == pos.line) = true) (hs : okEs sc r es xs = true) (hn : xs.length ≤ 20)
    (h : wpAny (model prog w) A (eval o env) (fun ov s₁ => ∀ pl : Sem Bool,wpAny (model prog w) A (getMethod ov name pl) (fun fx s₂ => wpAny (model prog w) A (callWith pos fx.1 fx.2 (backTo pos (starEach xs env)) []) Q NoE s₂) NoE s₁) NoE s) :
    wpAny (model prog w) A (eval (.Call (.Attribute o name apos) xs [] pos) env) Q NoE s := by
  rw [arm_eval_Call,attributeBase_ok hb]
  refine wpAny_bind (wpAny_mono h (fun ov s₁ h₁ => ?_) fun _ _ e => e)
  refine wpAny_bind (wpAny_standAt ?_)
  have hform : methodCallForm (xs.length + ([] : List Keyword).length) (backTo pos (starEach xs env)) (backToKw pos (keywordEach [] env)) = true := by
    unfold methodCallForm
    rw [backTo_ok env pos hs]
    simp [trees,backToKw,keywordEach]
    omega
  have hpos : methodCallPos true o env apos pos = pure pos := by unfold methodCallPos; simp [hl]
  unfold methodCall
  rw [hform]
  refine wpAny_bind (wpAny_holding (wpAny_mono (h₁ _) (fun fx s₂ h₂ => ?_) fun _ _ e => e))
  exact wpAny_bind (wpAny_of_eq hpos h₂)
end
end
section
section
variable {prog : Program} {w : World} {A : Around} {s0 s : Shared} {K : Frag} {g0 g : Heap} {L a : Addr} {m : Str → Option Value} {H : AH} {l : Led} {ρ : Rho} {sc : Scope} {r : Nat} {cn : Str} {ccd : Value}
  {p : Program} {loose : List Str} {mean : ExcName → Option Value} {mg mb : Str → Option Value}
theorem EP.le {Q : Post} {v : Value} {s : Shared} {l l' : Led} (h : EP prog w g0 g L m s0 l' Q v s) (k : Le l l') : EP prog w g0 g L m s0 l Q v s := h.mono k fun _ _ h => h
theorem EP.wle {Q : Post} {t : Sem Value} {l l' : Led} (k : Le l l') (h : wpAny (model prog w) A t (EP prog w g0 g L m s0 l' Q) NoE s) : wpAny (model prog w) A t (EP prog w g0 g L m s0 l Q) NoE s :=
  wpAny_mono h (fun _ _ h => h.le k) fun _ _ h => h
theorem EsP.le {Q : List V → AH → Prop} {v : List Value} {s : Shared} {l l' : Led} (h : EsP prog w g0 g L m s0 l' Q v s) (k : Le l l') : EsP prog w g0 g L m s0 l Q v s :=
  let ⟨x,H',l'',a,b,c,d⟩ := h; ⟨x,H',l'',a,b,k.trans c,d⟩
def TP (prog : Program) (w : World) (g0 g : Heap) (L : Addr) (m : Str → Option Value) (s0 : Shared) (l : Led) (T F : AH → Prop) (b : Bool) (s' : Shared) : Prop :=
  ∃ H' l',(b = true → T H') ∧ (b = false → F H') ∧ Le l l' ∧ St prog w g0 g L m H' l' s0 s'
theorem TP.le {T F : AH → Prop} {b : Bool} {s : Shared} {l l' : Led} (h : TP prog w g0 g L m s0 l' T F b s) (k : Le l l') : TP prog w g0 g L m s0 l T F b s :=
  let ⟨H',l'',a,b,c,d⟩ := h; ⟨H',l'',a,b,k.trans c,d⟩
theorem kind_loc (h : isLoc sc n = true) : (envOf cn sc L a ccd).kindOf n = some .local := by
  simp only [isLoc,Bool.and_eq_true,decide_eq_true_eq] at h
  exact h.1
theorem kind_gl (h : isGl sc n = true) : (envOf cn sc L a ccd).kindOf n = some .globalImplicit := by
  simp only [isGl,Bool.and_eq_true,decide_eq_true_eq] at h
  exact h.1
theorem nodebug_loc (h : isLoc sc n = true) : (n == ("__debug__" : Str)) = false := by
  simp only [isLoc,Bool.and_eq_true,Bool.not_eq_true'] at h; exact h.2
theorem nodebug_gl (h : isGl sc n = true) : (n == ("__debug__" : Str)) = false := by
  simp only [isGl,Bool.and_eq_true,Bool.not_eq_true'] at h; exact h.2
theorem Amb.le {d d' u u' : Nat} (h : Amb K p loose mean mg mb A g d u) (hd : d' ≤ d) (hu : u' ≤ u) : Amb K p loose mean mg mb A g d' u' := ⟨h.hnd,by have := h.depth; omega,by have := h.units; omega,h.kin,h.top⟩
theorem callFn_ok {f : Fn} {vs : List V} {vals : List Value} {Q : Post} {env : Env} (hA : Amb K p loose mean mg mb A g (4 * r + 8) (20 * r + 100)) (hF : Frm A g L env) (hr : f.rank < r) (S : St prog w g0 g L m H l s0 s) (hv : VRs l vs vals)
    (h : spR prog w K p loose mean mg mb f vs H Q) : wpAny (model prog w) A (call (.ref f.addr) vals) (EP prog w g0 g L m s0 l Q) NoE s := by
  refine wpAny_call (codeAny_mono (h A g0 g L m l s0 s env vals (hA.le (by omega) (by omega)) hF S hv) fun r s' q => ?_)
  cases r with
  | error e => exact q
  | ok fl => cases fl <;> exact q
theorem callCls_ok (hK : KOk K) {c : Cls} {vs : List V} {vals : List Value} {Q : Post} {env : Env} (hA : Amb K p loose mean mg mb A g (4 * r + 8) (20 * r + 100)) (hF : Frm A g L env) (hr : c.init.rank < r) (S : St prog w g0 g L m H l s0 s) (hv : VRs l vs vals)
    (h : ∀ b,H b = none → spR prog w K p loose mean mg mb c.init (.ref b :: vs) (put H b (.inst c [])) fun v H2 => v = .none ∧ Q (.ref b) H2) :
    wpAny (model prog w) A (call (.ref c.addr) vals) (EP prog w g0 g L m s0 l Q) NoE s := by
  have C := hK.cls c
  simp only [clsOk,Bool.and_eq_true,beq_iff_eq] at C
  refine call_cls (kw := []) S.fr hA.kin S.nw C.1.1.1.2 C.1.1.2 C.1.2 fun x dx h' F' N' lt1 lt2 => ?_
  obtain ⟨own,R⟩ := S.rep
  have hdx : dx ∉ l.map (·.1) := fun hm => by
    obtain ⟨q,hq,e⟩ := List.mem_map.mp hm
    have := lt1 q hq; rw [e] at this; exact absurd this (Nat.lt_irrefl _)
  have hx : x ∉ l.map (·.1) := fun hm => by
    obtain ⟨q,hq,e⟩ := List.mem_map.mp hm
    have := lt1 q hq; rw [e] at this; exact absurd lt2 (Nat.not_lt.mpr (Nat.le_of_lt this))
  have g0n : ∀ {y : Addr} {o : Obj},(y,o) ∈ ((x,instObj c.addr dx) :: (dx,dictOf [] 0) :: l) → g0.get? y = none := fun {y o} hm => by
    cases e : g0.get? y with
    | none => rfl
    | some o' => have := S.sub _ _ e; rw [(N' (y,o) hm).2.2] at this; cases this
  have hHx := R.fresh hx (g0n (.head _))
  have hHd := R.fresh hdx (g0n (.tail _ (.head _)))
  have S1 : St prog w g0 g L m (put H x (.inst c [])) ((x,instObj c.addr dx) :: (dx,dictOf [] 0) :: l) s0 { s with heap := h' } :=
    S.to (t := s.toks) F' N' ⟨_,R.newI hx hdx (Nat.ne_of_gt lt2) hHd⟩
  have hle : Le l ((x,instObj c.addr dx) :: (dx,dictOf [] 0) :: l) := fun _ hq _ => .tail _ (.tail _ hq)
  obtain ⟨A₀,base,outer,B,hfr⟩ := hF.ex
  have hun : (A.under (.builtin "type.__call__" ⟨.ref c.addr :: vals,[]⟩)).units ≤ A.units + 3 := by
    show A.units + (Code.builtin "type.__call__" ⟨.ref c.addr :: vals,[]⟩).cUnits ≤ _
    have : (Code.builtin "type.__call__" ⟨.ref c.addr :: vals,[]⟩).cUnits ≤ 3 := by
      show 1 + 3 * (Code.builtin "type.__call__" ⟨.ref c.addr :: vals,[]⟩).frames ≤ 3
      have : (Code.builtin "type.__call__" ⟨.ref c.addr :: vals,[]⟩).frames = 0 := rfl
      omega
    omega
  have hA' : Amb K p loose mean mg mb (A.under (.builtin "type.__call__" ⟨.ref c.addr :: vals,[]⟩)) g (4 * c.init.rank + 10) (20 * c.init.rank + 110) :=
    ⟨hA.hnd,by rw [depth_under_make]; have := hA.depth; omega,by have := hA.units; omega,hA.kin,hA.top⟩
  have hF' : Frm (A.under (.builtin "type.__call__" ⟨.ref c.addr :: vals,[]⟩)) g L env := ⟨⟨A₀,base,outer,B,hfr⟩,hF.fr,hF.kind⟩
  refine codeAny_mono (h x hHx _ g0 g L m _ s0 _ env (.ref x :: vals) hA' hF' S1 (.cons (.ref x) (hv.mono hle))) fun r s' q => ?_
  cases r with
  | error e => exact q.elim
  | ok fl =>
    cases fl with
    | ret v =>
      obtain ⟨y,H',l',⟨rfl,q1⟩,q2,q3,q4⟩ := q
      cases q2
      exact ⟨rfl,.ref x,H',l',q1,.ref x,hle.trans q3,q4⟩
    | next => exact q.elim
    | brk => exact q.elim
    | cont => exact q.elim
end
end
section
section
variable {prog : Program} {w : World} {A : Around} {s0 s : Shared} {K : Frag} {g0 g : Heap} {L a : Addr} {m : Str → Option Value} {H : AH} {l : Led} {ρ : Rho} {sc : Scope} {r : Nat} {cn : Str} {ccd : Value}
  {p : Program} {loose : List Str} {mean : ExcName → Option Value} {mg mb : Str → Option Value}
theorem folded_ok {it : Expr} {e : E} (h : okE sc r e it = true) (env : Env) (x : Value) : foldedSetIterable it env x = pure x := by
  cases it <;> first | rfl | (cases e <;> cases h)
def Rd (l : Led) (s : Shared) (y : V) (v : Value) (s' : Shared) : Prop := VR l y v ∧ ∃ t,s' = { s with toks := t }
theorem rdAttr_st (hC : ∀ c,clsOk K c = true) (hA : ∀ c,∀ n ∈ c.attrs,attrOk K c n = true) (X : K.In g) (S : St prog w g0 g L m H l s0 s) {x y : V} {v : Value} {n : N} (hv : VR l x v) (h : attrOf H n x = some y) :
    wpAny (model prog w) A (getAttr v n.str true) (Rd l s y) NoE s := by
  cases hv with
  | none | bool | int | str | tup => simp only [attrOf] at h; cases h
  | ref a =>
    simp only [attrOf] at h
    split at h
    · rename_i c m' hH
      split at h
      case isFalse => cases h
      rename_i hn
      obtain ⟨own,R⟩ := S.rep
      obtain ⟨d,es,k,h1,h2,h3,h4⟩ := R.obj a _ hH
      obtain ⟨u,hu,hvu⟩ := h4.getL h
      have C := hC c
      have At := hA c n hn
      simp only [clsOk,Bool.and_eq_true,beq_iff_eq] at C
      simp only [attrOk,Bool.and_eq_true,beq_iff_eq] at At
      obtain ⟨At1,At2⟩ := At
      cases hf : findIn K (.ref c.addr) n.str with
      | none => rw [hf] at At1; cases At1
      | some at_ =>
        rw [hf] at At1
        exact get_own S.fr X (InstAt.of_news S.nw h1 h2) (name := n.str) C.1.1.1.1.1.1.1 C.1.1.1.1.1.1.2 hf At1 hu hvu.handed ⟨hvu,_,rfl⟩
    · cases h
theorem tupItem_st (S : St prog w g0 g L m H l s0 s) {x y : V} {v : Value} {i : Nat} {t : Tok} (hi : i ≤ 1000) (hv : VR l x v) (h : tupItem i x = some y) :
    wpAny (model prog w) A (getItem v (.int (i : Int) t)) (Rd l s y) NoE s ∧ ∃ T id,s.TypeIs v T ∧ typeLookup (.type T) "__getitem__" = pure (some (.builtin id)) := by
  cases hv with
  | none | bool | int | str | ref => simp only [tupItem] at h; cases h
  | tup m1 r1 =>
    simp only [tupItem] at h
    have ht : IsTup s.heap _ _ := ⟨_,S.nw.get m1,rfl,_,rfl⟩
    obtain ⟨u,hu,hvu⟩ := r1.get h
    have hlt := (List.getElem?_eq_some_iff.mp hu).1
    refine ⟨getItem_tuple ht (by omega) (by omega) (j := i) ?_ (by simpa using hu) ⟨hvu,s.toks,rfl⟩,"tuple",_,⟨_,S.nw.get m1,rfl⟩,F.slot_tuple_getitem.lookup⟩
    simp only [List.size_toArray]
    rw [PySem.seqIndex_of (by omega) (by omega)]
    simp
theorem compRest_ok (S : St prog w g0 g L m H l s0 s) {f : V → Option V} {env : Env} {elt : Expr} {x : Str} {cs : Scope} {ax : Addr} {vs : List Value} {n : Nat} {g1 : Heap} {Q : Post} {l0 : Led} (hk : Le l0 l) (hm : (ax,W.listOf vs.toArray n) ∈ l)
    (he : ∀ (u y : V) (v : Value) (C : Addr) (oC : Obj) (m₂ : Str → Option Value) (h : Heap) (tk : Nat),f u = some y → VR l u v → LCg.NsObj oC m₂ → h.get? C = some oC → m₂ x = some v →
      St prog w g0 g L m H l s0 { s with heap := h,toks := tk } → wpAny (model prog w) A (eval elt (compEnvC cs [] C env)) (Rd l { s with heap := h,toks := tk } y) NoE { s with heap := h,toks := tk })
    {zs : List V} (hQ : ∀ c,H c = none → Q (.ref c) (put H c (.list zs))) :
    ∀ (xs ys : List V) (pre post : List Value) (yd : List V) (out : List Value),VRs l xs post → listM f xs = some ys → vs = pre ++ post → VRs l yd out → zs = yd ++ ys →
      LCg.CompRest prog w A g L m env elt x cs [] { s with heap := g1 } (LCg.SrcAt g ax vs.toArray) (fun i v => vs.toArray[i]? = some v)
        (LCg.FinE g L m { s with heap := g1 } (EP prog w g0 g L m s0 l0 Q)) post.length pre.length out l
  | [],ys,pre,_,yd,out,.nil,hl,hv,ho,hz => by
    simp only [listM] at hl; cases hl
    refine LCg.CompRest.zero fun D h tk F N off => ?_
    rw [List.append_nil] at hz; subst hz
    have hD : D ∉ l.map (·.1) := by
      clear F N hm he
      revert off
      generalize l = l'
      induction l' with
      | nil => intro _ h; cases h
      | cons p r ih =>
        intro off h
        rw [List.map_cons] at h
        rcases List.mem_cons.mp h with e | e
        · exact off.1 e.symm
        · exact ih off.2 e
    have q := St.newEP (Q := Q) (ox := .list zs) S F N hD (fun _ => ⟨out,out.length,.head _,ho.mono (Le.cons _ _)⟩) hQ tk
    exact q.le hk
  | u :: xs,ys,pre,_,yd,out,.cons (v := v) (vs := post) hu hr,hl,hv,ho,hz => by
    simp only [listM] at hl
    cases hf : f u with
    | none => rw [hf] at hl; cases hl
    | some y =>
      rw [hf] at hl
      cases hl2 : listM f xs with
      | none => rw [hl2] at hl; cases hl
      | some ys2 =>
        rw [hl2] at hl; cases hl
        refine LCg.CompRest.succ fun v' I oI C oC D m₂ h tk E' hP hns hx F N off _ => ?_
        have e1 : vs.toArray[pre.length]? = some v := by rw [hv]; simp
        rw [e1] at hP; cases hP
        have N' : News g L h l := fun p hp => N p (.tail _ (.tail _ (.tail _ hp)))
        have hC := (N (C,oC) (.tail _ (.head _))).1
        refine wpAny_mono (he u y v C oC m₂ h tk hf hu hns hC hx ⟨F,N',S.rep,S.sub,S.same⟩) (fun r s' q => ?_) fun _ _ e => e.elim
        obtain ⟨q1,t,rfl⟩ := q
        refine LCg.CompEnd.intro (tk := t) F N l (fun p hp => hp) off (.inr ⟨_,hm,rfl,_,rfl⟩) ?_
        have := compRest_ok (g1 := g1) S hk hm he hQ xs ys2 (pre ++ [v]) post (yd ++ [y]) (out ++ [r]) hr hl2 (by rw [hv]; simp) (ho.snoc q1) (by rw [hz]; simp)
        simpa using this
theorem comp_ok (S : St prog w g0 g L m H l s0 s) (hh : A.handled = none) {f : V → Option V} {env : Env} {elt : Expr} {x : Str} {cs : Scope} {Q : Post} {u : V} {v : Value} {l0 : Led} (hk : Le l0 l) (hu : VR l u v) (h : compV f u H Q)
    (he : ∀ (u y : V) (v : Value) (C : Addr) (oC : Obj) (m₂ : Str → Option Value) (h : Heap) (tk : Nat),f u = some y → VR l u v → LCg.NsObj oC m₂ → h.get? C = some oC → m₂ x = some v →
      St prog w g0 g L m H l s0 { s with heap := h,toks := tk } → wpAny (model prog w) A (eval elt (compEnvC cs [] C env)) (Rd l { s with heap := h,toks := tk } y) NoE { s with heap := h,toks := tk }) :
    LCg.CompSrc prog w A g L m env elt x cs [] (fun s₂ => LCg.FinE g L m s₂ (EP prog w g0 g L m s0 l0 Q)) v s := by
  cases hu with
  | none | bool | int | str | tup => exact h.elim
  | ref a =>
    simp only [compV] at h
    split at h
    · rename_i xs hA
      obtain ⟨h1,ys,h2,h3⟩ := h
      obtain ⟨own,R⟩ := S.rep
      obtain ⟨vs,n,m1,r1⟩ := R.obj _ _ hA
      have hlen := r1.length
      refine LCg.CompSrc.ledger (its := vs.toArray) (k := n) hh S.fr S.nw m1 (by simp only [List.size_toArray]; rw [hlen]; exact big_list _ (by omega)) fun g1 => ?_
      have := compRest_ok (A := A) (g1 := g1) S hk m1 he h3 xs ys [] vs [] [] r1 h2 rfl .nil rfl
      simpa using this
    · exact h.elim
def pairsOf (env : Env) (q : Pos) : List (Option Expr) → List Expr → List (Sem Value × Sem Value)
  | some k :: ks,e :: es => (eval k env,do let x ← eval e env; standAt q; pure x) :: pairsOf env q ks es
  | _,_ => []
theorem pairsOf_zip (env : Env) (q : Pos) : ∀ (ks : List Tx) (keys : List (Option Expr)) (es : List Expr),okKeys ks keys = true → ks.length = es.length →
    (evalEachOpt keys env).zip ((evalEach es env).map fun v => do let x ← v; standAt q; pure x) = (pairsOf env q keys es).map (fun p => (some p.1,p.2)) ∧ (pairsOf env q keys es).length = ks.length
  | [],keys,es,h,hl => by
    simp only [okKeys,List.isEmpty_iff] at h; subst h
    exact ⟨rfl,rfl⟩
  | k :: ks,keys,[],h,hl => by cases hl
  | k :: ks,keys,e :: es,h,hl => by
    simp only [okKeys] at h
    split at h
    · rename_i t p u xs
      simp only [Bool.and_eq_true] at h
      obtain ⟨i1,i2⟩ := pairsOf_zip env q ks _ es h.2 (by simpa using hl)
      refine ⟨?_,?_⟩
      · simp only [pairsOf,evalEachOpt,evalEach,List.map_cons,List.zip_cons_cons]
        rw [i1]; rfl
      · simp only [pairsOf,List.length_cons,i2]
    · cases h
theorem forIn_gather17 (f : (Option (Sem Value) × Sem Value) → (Option Addr × List (Sem Value × Sem Value)) → Sem (ForInStep (Option Addr × List (Sem Value × Sem Value))))
    (hf : ∀ (p : Sem Value × Sem Value) (run : List (Sem Value × Sem Value)),run.length + 1 < 17 → f (some p.1,p.2) (none,run) = pure (.yield (none,run ++ [p])))
    (hg : ∀ (p : Sem Value × Sem Value) (run : List (Sem Value × Sem Value)),run.length + 1 = 17 → f (some p.1,p.2) (none,run) = (do let d ← subDict (run ++ [p]); pure (.yield (some d,[])))) :
    ∀ (items run : List (Sem Value × Sem Value)),run.length + items.length = 17 → items ≠ [] → forIn (items.map fun p => (some p.1,p.2)) ((none : Option Addr),run) f = (do let d ← subDict (run ++ items); pure (some d,[]))
  | [],_,_,h => absurd rfl h
  | [p],run,h,_ => by
    rw [List.map_cons,List.forIn_cons,hg p run (by simpa using h)]
    simp
  | p :: q :: rest,run,h,_ => by
    rw [List.map_cons,List.forIn_cons,hf p run (by simp at h; omega),pure_bind]
    have := forIn_gather17 f hf hg (q :: rest) (run ++ [p]) (by simp at h ⊢; omega) (by simp)
    simpa using this
theorem dictDisplay_17 (pairs : List (Sem Value × Sem Value)) (hlen : pairs.length = 17) :
    dictDisplay (pairs.map fun p => (some p.1,p.2)) = (do let d ← subDict pairs; pure (.ref d)) := by
  unfold dictDisplay
  dsimp only
  rw [forIn_gather17 _ (fun p run h => by
    have hne : ((run ++ [(p.1,p.2)]).length == 17) = false := by simp; omega
    simp only [hne,Bool.false_eq_true,if_false]) (fun p run h => by
    have hne : ((run ++ [(p.1,p.2)]).length == 17) = true := by simp; omega
    simp [hne]; intro hc; exact absurd (by omega) hc) pairs [] (by simpa using hlen) (fun e => by rw [e] at hlen; cases hlen)]
  simp
abbrev storePair (d : Addr) (x : Sem Value × Sem Value) (_ : PUnit) : Sem (ForInStep PUnit) := do
  let kv ← x.1
  let vv ← holding [kv] x.2
  holding [kv,vv] (dictSet d kv vv)
  pure (ForInStep.yield PUnit.unit)
theorem subDict_long {pairs : List (Sem Value × Sem Value)} {Q : Addr → Shared → Prop} {E : Value → Shared → Prop} (hlen : 15 < pairs.length)
    (h : wpAny (model prog w) A (forIn pairs PUnit.unit (storePair s.heap.objs.size)) (fun _ s' => Q s.heap.objs.size s') E { s with heap := s.heap.push { cls := .type "dict",data := .dict #[] } }) : wpAny (model prog w) A (subDict pairs) Q E s := by
  unfold subDict
  refine wpAny_bind (wpAny_alloc ?_)
  refine wpAny_bind (wpAny_holding ?_)
  rw [if_neg (by omega)]
  refine wpAny_bind (wpAny_rule ?_)
  refine wpAny_bind (wpAny_mono h (fun _ s' q => ?_) fun _ _ e => e)
  exact wpAny_pure (wpAny_pure q)
theorem storePair_ok {d : Addr} {t : Str} {kk : Nat} {pos : Pos} {env : Env} {tv : Sem Value} {u : PUnit} {Q : ForInStep PUnit → Shared → Prop} {E : Value → Shared → Prop}
    (h : wpAny (model prog w) A tv (fun v s1 => wpAny (model prog w) A (dictSet d (.str t s.toks) v) (fun _ s2 => Q (.yield PUnit.unit) s2) E s1) E { s with toks := s.toks + 1 }) :
    wpAny (model prog w) A (storePair d (eval (.Constant (.str t) kk pos) env,tv) u) Q E s := by
  have h2 : wpAny (model prog w) A (holding [.str t s.toks] tv) (fun v s1 => wpAny (model prog w) A (holding [.str t s.toks,v] (dictSet d (.str t s.toks) v) >>= fun _ => pure (ForInStep.yield PUnit.unit)) Q E s1) E { s with toks := s.toks + 1 } :=
    wpAny_holding (wpAny_mono h (fun v s1 q => wpAny_bind (wpAny_holding (wpAny_mono q (fun _ s2 q => wpAny_pure q) fun _ _ e => e))) fun _ _ e => e)
  refine wpAny_bind (wpAny_Constant_str (pos := pos) (k := kk) (env := env) ?_)
  exact wpAny_bind h2
theorem dictSet_ok (S : St prog w g0 g L m H l s0 s) {Q : AH → Prop} {c : Addr} {k : Tx} {t : Tok} {mm : List (Tx × V)} {z : V} {r : Value} (hA : H c = some (.sd mm)) (hz : VR l z r) (hsz : mm.length ≤ 1000000) (hQ : Q (put H c (.sd (sset mm k z)))) :
    wpAny (model prog w) A (dictSet c (.str (tx k) t) r) (fun _ s' => UP prog w g0 g L m s0 l Q s') NoE s := by
  have hr := S.rep
  obtain ⟨own,R⟩ := hr
  obtain ⟨o,kvs,m1,r1,r2,r3⟩ := R.obj c _ hA
  have hD := Heap.dictOf_iff.mpr ⟨o,S.nw.get m1,r1⟩
  refine wpAny_dictSet_pairs (strKind_is prog w (tx k) t) hD (fun h' hD' hs => ?_) (by rw [r2.length]; exact big_list _ (by omega))
  obtain ⟨o',ho',hI⟩ := Heap.dictOf_iff.mp hD'
  have z := S.nw _ m1
  obtain ⟨_,_,hex,_⟩ := r1
  have hle := Le.upd R.nodup o' m1 (mut_dict hex.1)
  have hn : (kvs.map (·.1)).Nodup := by obtain ⟨_,_,_,_,_,_,_,_,q⟩ := hD; exact q
  exact ⟨_,_,hQ,hle,S.to (S.fr.change hs z.2.1 z.2.2) (S.nw.replace hs ho') ⟨own,R.change hA m1 (mut_dict hex.1) ⟨o',_,upd_self m1,hI,(r2.store (fun _ _ => tx_inj.mp) hn k hz).mono hle,r3⟩⟩⟩
theorem dictNew_ok (S : St prog w g0 g L m H l s0 s) (hbig : sysModules < g.objs.size) : ∃ l',H s.heap.objs.size = none ∧ Le l l' ∧ St prog w g0 g L m (put H s.heap.objs.size (.sd [])) l' s0 { s with heap := s.heap.push { cls := .type "dict",data := .dict #[] } } := by
  obtain ⟨own,R⟩ := S.rep
  have F := S.fr.push { cls := .type "dict",data := .dict #[] }
  have N := News.push S.fr S.nw { cls := .type "dict",data := .dict #[] }
  have hn := R.fresh S.fresh (by cases e : g0.get? s.heap.objs.size with | none => rfl | some o' => have := S.sub _ _ e; rw [(N _ (.head _)).2.2] at this; cases this)
  have hd : ({ cls := .type "dict",data := .dict #[] } : Obj).IsDictOf (strKind prog w) [] := by
    obtain ⟨o,ho,hd⟩ := Heap.dictOf_iff.mp (Heap.DictOf.new (knd := strKind prog w) s.heap)
    rw [Heap.get?_push_size _ rfl] at ho
    exact (Option.some.inj ho) ▸ hd
  exact ⟨_,hn,Le.cons _ _,F,N,⟨own,R.new S.fresh ⟨_,[],.head _,hd,.nil,S.fr.notModules hbig⟩⟩,S.sub,S.same⟩
theorem cs_names {cs : Scope} {x : N} (h : (cs.names == [(Str.ofString ".0",.local),(x.str,.local)]) = true) : (∀ y ∈ cs.names,y.2 ≠ .cell) ∧ (∀ y ∈ cs.names,y.2 ≠ .free) ∧ (∀ y ∈ cs.names,y.2 = .local → cs.names.lookup y.1 = some .local) ∧ cs.names.lookup x.str = some .local := by
  have e := eq_of_beq h
  rw [e]
  have hne : (x.str == Str.ofString ".0") = false := by cases x <;> decide +kernel
  refine ⟨fun y hy => ?_,fun y hy => ?_,fun y hy _ => ?_,?_⟩
  · rcases List.mem_cons.mp hy with rfl | hy
    · exact fun h => by cases h
    · rcases List.mem_cons.mp hy with rfl | hy
      · exact fun h => by cases h
      · cases hy
  · rcases List.mem_cons.mp hy with rfl | hy
    · exact fun h => by cases h
    · rcases List.mem_cons.mp hy with rfl | hy
      · exact fun h => by cases h
      · cases hy
  · rcases List.mem_cons.mp hy with rfl | hy
    · simp [List.lookup]
    · rcases List.mem_cons.mp hy with rfl | hy
      · simp [List.lookup,hne]
      · cases hy
  · simp [List.lookup,hne]
theorem comp_name {env : Env} {cs : Scope} {x : N} {C : Addr} {oC : Obj} {m₂ : Str → Option Value} {v : Value} {q : Pos} {Q : Value → Shared → Prop} {E : Value → Shared → Prop} (hk : cs.kind = .function) (hx : cs.names.lookup x.str = some .local)
    (hn : LCg.NsObj oC m₂) (hC : s.heap.get? C = some oC) (hv : m₂ x.str = some v) (h : Q v s) : wpAny (model prog w) A (eval (.Name x.str q) (compEnvC cs [] C env)) Q E s :=
  wpAny_Name (wpAny_loadName_local (m := m₂) (by simpa [compEnvC,relabel] using hk) (lookup_relabel_local hx) (hn.ns hC) hv h) (by cases x <;> decide +kernel)
end
end
section
section
variable {prog : Program} {w : World} {A : Around} {s0 : Shared} {K : Frag} {g0 g : Heap} {L a : Addr} {m : Str → Option Value} {ρ : Rho} {sc : Scope} {r : Nat} {cn : Str} {ccd : Value}
  {p : Program} {loose : List Str} {mean : ExcName → Option Value} {mg mb : Str → Option Value}
theorem hs_any (slice : Expr) (o i : Value) : ∃ ops,subscripted slice false o i = operate ops (getItem o i) := by
  unfold subscripted; split
  · exact ⟨_,rfl⟩
  · rename_i h; cases h
  · exact ⟨_,rfl⟩
theorem pow_ok {s : Shared} {x y : Nat} {t u : Tok} {Q : Value → Shared → Prop} (hx : x ≤ 100) (hy : y ≤ 1000) (h : Q (.int ((x : Int) ^ y) s.toks) { s with toks := s.toks + 1 }) :
    wpAny (model prog w) A (binaryOp .Pow (.int x t) (.int y u)) Q NoE s := by
  refine pow_int (by omega) ?_ (by simpa using h)
  have : Builtin.Int.intBits (x : Int) ≤ 64 := PySem.intBits_le_64 (by omega) (by omega)
  have h2 : (Builtin.Int.intBits (x : Int) : Int) * (y : Int) ≤ 64 * 1000 := by
    have := Nat.mul_le_mul this hy
    exact_mod_cast this
  omega
theorem popV_list {v : V} {H : AH} {Q : Post} (h : popV v H Q) : ∃ a xs,v = .ref a ∧ H a = some (.list xs) := by
  cases v <;> simp only [popV] at h
  split at h
  · rename_i hA; exact ⟨_,_,rfl,hA⟩
  · exact h.elim
theorem pop0V_list {v : V} {H : AH} {Q : Post} (h : pop0V v H Q) : ∃ a xs,v = .ref a ∧ H a = some (.list xs) := by
  cases v <;> simp only [pop0V] at h
  split at h
  · rename_i hA; exact ⟨_,_,rfl,hA⟩
  · exact h.elim
theorem find7 : (Txt.find (Str.ofString "0123456789ABCDEF") (tx [55]) : Int) = 7 := by decide +kernel
theorem tp_of_ep {l : Led} {s : Shared} {v : Value} {T F : AH → Prop} (h : EP prog w g0 g L m s0 l (fun v H1 => ∃ b,v = .bool b ∧ (b = true → T H1) ∧ (b = false → F H1)) v s) :
    wpAny (model prog w) A (truthy v) (TP prog w g0 g L m s0 l T F) NoE s := by
  obtain ⟨x,H',l',⟨b,rfl,h1,h2⟩,q2,q3,q4⟩ := h
  cases q2
  exact wpAny_truthy_bool ⟨H',l',h1,h2,q3,q4⟩
set_option maxHeartbeats 4000000 in
mutual
theorem sE (hK : KOk K) (hA : Amb K p loose mean mg mb A g (4 * r + 8) (20 * r + 100)) (hF : Frm A g L (envOf cn sc L a ccd)) : ∀ (e : E) (ex : Expr),okE sc r e ex = true → ∀ {H : AH} {l : Led} {s : Shared} {Q : Post},
    wpE (spR prog w K p loose mean mg mb) ρ e H Q → St prog w g0 g L m H l s0 s → LR l ρ m → wpAny (model prog w) A (eval ex (envOf cn sc L a ccd)) (EP prog w g0 g L m s0 l Q) NoE s
  | .loc x => by
    intro ex hk H l s Q h S hL
    simp only [okE] at hk
    split at hk
    case h_2 => exact absurd hk Bool.false_ne_true
    simp only [Bool.and_eq_true,beq_iff_eq] at hk
    simp only [wpE] at h
    obtain ⟨v,hv,hQ⟩ := h
    obtain ⟨u,hu,hvu⟩ := hL x v hv
    have h1 := hk.1; subst h1
    exact ld S.fr hu (S.ep hvu hQ s.toks) hF.kind (kind_loc hk.2) (nodebug_loc hk.2)
  | .gint n i => by
    intro ex hk H l s Q h S hL
    simp only [okE] at hk
    split at hk
    case h_2 => exact absurd hk Bool.false_ne_true
    simp only [Bool.and_eq_true,beq_iff_eq] at hk
    simp only [wpE] at h
    obtain ⟨⟨h1,h2⟩,h3⟩ := hk
    subst h1
    obtain ⟨t,ht⟩ := hK.gint _ (List.contains_iff_mem.mp h3)
    exact name_K S.fr hA.kin (topRead_of hA.top) ht (S.ep (.int _ _) h s.toks) hF.kind (kind_gl h2) (nodebug_gl h2)
  | .int i => by
    intro ex hk H l s Q h S hL
    simp only [okE] at hk
    split at hk
    case h_2 => exact absurd hk Bool.false_ne_true
    simp only [beq_iff_eq] at hk; subst hk
    simp only [wpE] at h
    exact wpAny_Constant_int (S.ep (.int _ _) h _)
  | .str x => by
    intro ex hk H l s Q h S hL
    simp only [okE] at hk
    split at hk
    case h_2 => exact absurd hk Bool.false_ne_true
    simp only [beq_iff_eq] at hk; subst hk
    simp only [wpE] at h
    exact wpAny_Constant_str (S.ep (.str _ _) h _)
  | .bool b => by
    intro ex hk H l s Q h S hL
    simp only [okE] at hk
    split at hk
    case h_2 => exact absurd hk Bool.false_ne_true
    simp only [beq_iff_eq] at hk; subst hk
    simp only [wpE] at h
    exact wpAny_Constant_bool (S.ep (.bool _) h s.toks)
  | .none => by
    intro ex hk H l s Q h S hL
    simp only [okE] at hk
    split at hk
    case h_2 => exact absurd hk Bool.false_ne_true
    simp only [wpE] at h
    exact wpAny_Constant_none (S.ep .none h s.toks)
  | .pow x y => by
    intro ex hk H l s Q h S hL
    simp only [okE] at hk
    split at hk
    case h_2 => exact absurd hk Bool.false_ne_true
    simp only [Bool.and_eq_true,beq_iff_eq,decide_eq_true_eq] at hk
    obtain ⟨⟨⟨h1,h2⟩,h3⟩,h4⟩ := hk
    subst h1 h2
    simp only [wpE] at h
    exact wpAny_BinOp (wpAny_Constant_int (wpAny_Constant_int (pow_ok h3 h4 (S.ep (.int _ _) h _))))
  | .neg i => by
    intro ex hk H l s Q h S hL
    simp only [okE] at hk
    split at hk
    case h_2 => exact absurd hk Bool.false_ne_true
    simp only [beq_iff_eq] at hk; subst hk
    simp only [wpE] at h
    exact wpAny_UnaryOp (wpAny_Constant_int (neg_int (S.ep (.int _ _) h _)))
  | .attr e n => by
    intro ex hk H l s Q h S hL
    simp only [okE] at hk
    split at hk
    case h_2 => exact absurd hk Bool.false_ne_true
    simp only [Bool.and_eq_true,beq_iff_eq] at hk
    obtain ⟨⟨h1,h2⟩,h3⟩ := hk
    subst h1
    simp only [wpE] at h
    refine Attribute_any_ (wpAny_mono (sE hK hA hF e _ h3 h S hL) (fun v s' q => ?_) fun _ _ e => e) (by rw [arm_eval_Attribute,attributeBase_ok h2])
    obtain ⟨x,H',l',q1,q2,q3,q4⟩ := q
    exact EP.wle q3 (rdAttr_ok hK.cls hK.attr hA.kin q4 q2 q1)
  | .bin o x y => by
    intro ex hk H l s Q h S hL
    simp only [okE] at hk
    split at hk
    case h_2 => exact absurd hk Bool.false_ne_true
    simp only [Bool.and_eq_true,beq_iff_eq] at hk
    obtain ⟨⟨h1,h2⟩,h3⟩ := hk
    subst h1
    simp only [wpE] at h
    refine wpAny_BinOp (wpAny_mono (sE hK hA hF x _ h2 h S hL) (fun v s' q => ?_) fun _ _ e => e)
    obtain ⟨x,H',l',q1,q2,q3,q4⟩ := q
    refine wpAny_mono (sE hK hA hF y _ h3 q1 q4 (hL.mono q3)) (fun v s' q => ?_) fun _ _ e => e
    obtain ⟨y,H'',l'',q5,q6,q7,q8⟩ := q
    exact EP.wle (q3.trans q7) (bin_ok q8 o (q2.mono q7) q6 q5)
  | .not x => by
    intro ex hk H l s Q h S hL
    simp only [okE] at hk
    split at hk
    case h_2 => exact absurd hk Bool.false_ne_true
    simp only [wpE] at h
    refine wpAny_UnaryOp (wpAny_mono (sE hK hA hF x _ hk h S hL) (fun v s' q => ?_) fun _ _ e => e)
    obtain ⟨y,H',l',⟨b,rfl,q1⟩,q2,q3,q4⟩ := q
    cases q2
    exact not_of (wpAny_truthy_bool (EP.le (q4.ep (.bool _) q1 _) q3))
  | .and es => by
    intro ex hk H l s Q h S hL
    simp only [okE] at hk
    split at hk
    case h_2 => exact absurd hk Bool.false_ne_true
    simp only [wpE] at h
    exact sAnd hK hA hF es _ hk h S hL
  | .or es => by
    intro ex hk H l s Q h S hL
    simp only [okE] at hk
    split at hk
    case h_2 => exact absurd hk Bool.false_ne_true
    simp only [wpE] at h
    exact sOr hK hA hF es _ hk h S hL
  | .cmp o x y => by
    intro ex hk H l s Q h S hL
    simp only [okE] at hk
    split at hk
    case h_2 => exact absurd hk Bool.false_ne_true
    simp only [Bool.and_eq_true,beq_iff_eq,Bool.not_eq_true'] at hk
    obtain ⟨⟨⟨h1,h4⟩,h2⟩,h3⟩ := hk
    subst h1
    simp only [wpE] at h
    refine wpAny_Compare1 (wpAny_mono (sE hK hA hF x _ h2 h S hL) (fun v s' q => ?_) fun _ _ e => e) h4
    obtain ⟨x,H',l',q1,q2,q3,q4⟩ := q
    refine wpAny_mono (sE hK hA hF y _ h3 q1 q4 (hL.mono q3)) (fun v s' q => ?_) fun _ _ e => e
    obtain ⟨y,H'',l'',q5,q6,q7,q8⟩ := q
    obtain ⟨P,k1,k2⟩ := cmp_ok (A := A) (by have := hA.units; omega) q8 o (q2.mono q7) q6 q5
    exact k2 _ fun r t hr => EP.le (q8.ep (.bool r) (k1 r hr) t) (q3.trans q7)
  | .ite t x y => by
    intro ex hk H l s Q h S hL
    simp only [okE] at hk
    split at hk
    case h_2 => exact absurd hk Bool.false_ne_true
    simp only [Bool.and_eq_true] at hk
    obtain ⟨⟨h1,h2⟩,h3⟩ := hk
    simp only [wpE] at h
    refine wpAny_IfExp (wpAny_mono (sT hK hA hF t _ h1 h S hL) (fun b s' q => ?_) fun _ _ e => e)
    obtain ⟨H',l',q1,q2,q3,q4⟩ := q
    cases b with
    | true => exact EP.wle q3 (sE hK hA hF x _ h2 (q1 rfl) q4 (hL.mono q3))
    | false => exact EP.wle q3 (sE hK hA hF y _ h3 (q2 rfl) q4 (hL.mono q3))
  | .list es => by
    intro ex hk H l s Q h S hL
    simp only [okE] at hk
    split at hk
    case h_2 => exact absurd hk Bool.false_ne_true
    simp only [Bool.and_eq_true,decide_eq_true_eq] at hk
    simp only [wpE] at h
    refine List_ ?_
    rw [backTo_ok _ _ hk.2]
    have hn := okEs_length hk.2
    refine wpAny_mono (sEs hK hA hF es _ hk.2 h S hL) (fun vs s' q => ?_) fun _ _ e => e
    obtain ⟨⟨ys,H',l',q1,q2,q3,q4⟩,q5⟩ := q
    exact EP.wle q3 (newList_ok q4 q2 (by have := q2.length; omega) q1)
  | .tup es => by
    intro ex hk H l s Q h S hL
    simp only [okE] at hk
    split at hk
    case h_2 => exact absurd hk Bool.false_ne_true
    simp only [Bool.and_eq_true,decide_eq_true_eq] at hk
    simp only [wpE] at h
    refine Tuple_ ?_
    rw [backTo_ok _ _ hk.2]
    have hn := okEs_length hk.2
    refine wpAny_mono (sEs hK hA hF es _ hk.2 h S hL) (fun vs s' q => ?_) fun _ _ e => e
    obtain ⟨⟨ys,H',l',q1,q2,q3,q4⟩,q5⟩ := q
    exact EP.wle q3 (newTuple_ok q4 q2 (by have := q2.length; omega) q1)
  | .dict ks es => by
    intro ex hk H l s Q h S hL
    simp only [okE] at hk
    split at hk
    case h_2 => exact absurd hk Bool.false_ne_true
    simp only [Bool.and_eq_true,beq_iff_eq] at hk
    obtain ⟨⟨⟨h1,h2⟩,h3⟩,h4⟩ := hk
    simp only [wpE] at h
    have hn := okEs_length h4
    rename_i keys vs q0
    obtain ⟨e1,e2⟩ := pairsOf_zip (envOf cn sc L a ccd) q0 ks keys vs h1 (by omega)
    rw [arm_eval_Dict,e1,dictDisplay_17 _ (by omega)]
    obtain ⟨l',k1,k2,k3⟩ := dictNew_ok S (modules_low hA.top.nolimit)
    refine wpAny_bind (wpAny_standAt (wpAny_bind (subDict_long (by omega) ?_)))
    refine wpAny_mono (sDs hK hA hF es _ ks _ _ _ h4 h1 (by omega) (h _ k1) k3 (hL.mono k2)) (fun _ s' q => ?_) fun _ _ e => e
    obtain ⟨H',l'',q1,q2,q3⟩ := q
    exact wpAny_pure ⟨_,H',l'',q1,.ref _,k2.trans q2,q3⟩
  | .dict0 k => by
    intro ex hk H l s Q h S hL
    simp only [okE] at hk
    split at hk
    case h_2 => exact absurd hk Bool.false_ne_true
    simp only [wpE] at h
    refine Dict_empty_made2 (prog := prog) (w := w) S.fr S.nw (modules_low hA.top.nolimit) fun h' o F N lo k1 k2 k3 k4 k5 => ?_
    obtain ⟨es,ep,c1,c2,c3,c4,c5⟩ := k1
    have ho : ∀ own,OR prog w own ((s.heap.objs.size,o) :: l) g0 s.heap.objs.size k.o := fun own => by
      cases k with
      | sd => exact ⟨o,[],.head _,⟨es,ep,c1,c2,c3,c4,c5⟩,.nil,lo⟩
      | idt => exact ⟨o,[],.head _,k3,.nil,lo⟩
      | td =>
        refine ⟨o,es,ep,[],.head _,c1,c2,?_,List.nodup_nil,(fun x hx => nomatch hx),Nat.le_refl _⟩
        cases c4q : es.toList with
        | nil => rfl
        | cons e r => rw [c4q] at c4; cases c4
    exact S.newEP F N S.fresh ho h s.toks
  | .idx x i => by
    intro ex hk H l s Q h S hL
    simp only [okE] at hk
    split at hk
    case h_2 => exact absurd hk Bool.false_ne_true
    simp only [Bool.and_eq_true] at hk
    simp only [wpE] at h
    refine Subscript_ (wpAny_mono (sE hK hA hF x _ hk.1 h S hL) (fun v s' q => ?_) fun _ _ e => e)
    obtain ⟨x,H',l',q1,q2,q3,q4⟩ := q
    refine wpAny_mono (sE hK hA hF i _ hk.2 q1 q4 (hL.mono q3)) (fun v s' q => ?_) fun _ _ e => e
    obtain ⟨y,H'',l'',q5,q6,q7,q8⟩ := q
    obtain ⟨k1,T,id,k2,k3⟩ := item_ok (A := A) q8 (q2.mono q7) q6 q5
    obtain ⟨ops,hs⟩ := hs_any _ _ _
    exact tail_any k2 k3 (EP.wle (q3.trans q7) k1) hs
  | .slice x lo hi => by
    intro ex hk H l s Q h S hL
    simp only [okE] at hk
    split at hk
    case h_2 => exact absurd hk Bool.false_ne_true
    simp only [Bool.and_eq_true] at hk
    obtain ⟨⟨h1,h2⟩,h3⟩ := hk
    simp only [wpE] at h
    refine Subscript_ (wpAny_mono (sE hK hA hF x _ h1 h S hL) (fun v s' q => ?_) fun _ _ e => e)
    obtain ⟨x,H',l',q1,q2,q3,q4⟩ := q
    refine wpAny_Slice (wpAny_mono (sO hK hA hF lo _ h2 q1 q4 (hL.mono q3)) (fun vl s' q => ?_) fun _ _ e => e)
    obtain ⟨lo',H'',l'',q5,q6,q7,q8⟩ := q
    refine wpAny_mono (sO hK hA hF hi _ h3 q5 q8 (hL.mono (q3.trans q7))) (fun vu s' q => ?_) fun _ _ e => e
    obtain ⟨hi',H3,l3,q9,q10,q11,q12⟩ := q
    rw [evalPart_none]
    exact wpAny_pure (EP.wle (q3.trans (q7.trans q11)) (slice_ok q12 (q2.mono (q7.trans q11)) q6 q10 q9))
  | .call f es => by
    intro ex hk H l s Q h S hL
    simp only [okE] at hk
    split at hk
    case h_2 => exact absurd hk Bool.false_ne_true
    simp only [Bool.and_eq_true,beq_iff_eq,decide_eq_true_eq] at hk
    obtain ⟨⟨⟨⟨h1,h2⟩,h3⟩,h4⟩,h5⟩ := hk
    subst h1
    simp only [wpE] at h
    refine Call_ (name_K S.fr hA.kin (topRead_of hA.top) (hK.gl f h3) ?_ hF.kind (kind_gl h2) (nodebug_gl h2))
    refine callWith_fin (hK.keepF f) hA.kin S h5 h (wpAny_mono (sEs hK hA hF es _ h5 h S hL) (fun _ _ q => q.1) fun _ _ e => e) fun ys H' l' vs s' q1 q2 q3 q4 => ?_
    exact EP.wle q3 (callFn_ok hA hF h4 q4 q2 q1)
  | .meth c o n es => by
    intro ex hk H l s Q h S hL
    simp only [okE] at hk
    split at hk
    case h_2 => exact absurd hk Bool.false_ne_true
    simp only [Bool.and_eq_true,beq_iff_eq,decide_eq_true_eq] at hk
    obtain ⟨⟨⟨⟨⟨⟨h1,h2⟩,h3⟩,h4⟩,h5⟩,h6⟩,h7⟩ := hk
    subst h1
    simp only [wpE] at h
    refine methodCall_ok h3 (by rw [h2]; exact beq_self_eq_true _) h7 h4 (wpAny_mono (sE hK hA hF o _ h6 h S hL) (fun v s' q pl => ?_) fun _ _ e => e)
    obtain ⟨x,H',l',⟨b,mm,f,rfl,q1,q5,q6,q7⟩,q2,q3,q4⟩ := q
    cases q2
    rw [q6] at h5
    simp only [decide_eq_true_eq] at h5
    obtain ⟨own,R⟩ := q4.rep
    obtain ⟨d,es',k,m1,m2,m3,m4⟩ := R.obj b _ q1
    have C := hK.cls c
    have M := hK.meth c n f q6
    simp only [clsOk,Bool.and_eq_true,beq_iff_eq] at C
    simp only [methOk,Bool.and_eq_true,beq_iff_eq] at M
    refine method_inst q4.fr hA.kin (InstAt.of_news q4.nw m1 m2) (name := n.str) C.1.1.1.1.1.1.1 M.1 M.2 (m4.getL_none q5) ?_
    refine callWith_fin (hK.keepF f) hA.kin q4 h7 q7 (wpAny_mono (sEs hK hA hF es _ h7 q7 q4 (hL.mono q3)) (fun _ _ q => q.1) fun _ _ e => e) fun ys H3 l3 vs s3 r1 r2 r3 r4 => ?_
    exact EP.wle (q3.trans r3) (callFn_ok hA hF h5 r4 (.cons (.ref b) r2) r1)
  | .new c es => by
    intro ex hk H l s Q h S hL
    simp only [okE] at hk
    split at hk
    case h_2 => exact absurd hk Bool.false_ne_true
    simp only [Bool.and_eq_true,beq_iff_eq,decide_eq_true_eq] at hk
    obtain ⟨⟨⟨h1,h2⟩,h4⟩,h5⟩ := hk
    subst h1
    simp only [wpE] at h
    have C := hK.cls c
    simp only [clsOk,Bool.and_eq_true,beq_iff_eq] at C
    refine Call_ (name_K S.fr hA.kin (topRead_of hA.top) C.2 ?_ hF.kind (kind_gl h2) (nodebug_gl h2))
    refine callWith_fin (hK.keepC c) hA.kin S h5 h (wpAny_mono (sEs hK hA hF es _ h5 h S hL) (fun _ _ q => q.1) fun _ _ e => e) fun ys H' l' vs s' q1 q2 q3 q4 => ?_
    exact EP.wle q3 (callCls_ok hK hA hF h4 q4 q2 q1)
  | .bi b es => by
    intro ex hk H l s Q h S hL
    simp only [okE] at hk
    split at hk
    case h_2 => exact absurd hk Bool.false_ne_true
    simp only [Bool.and_eq_true,beq_iff_eq] at hk
    obtain ⟨⟨h1,h2⟩,h5⟩ := hk
    subst h1
    simp only [wpE] at h
    refine Call_ (name_B S.fr hA.kin (topRead_of hA.top) (hK.bi b) (Bi.boot b) (Bi.noname b) ?_ hF.kind (kind_gl h2) (nodebug_gl h2))
    rw [backTo_ok _ _ h5]
    have ih := sEs hK hA hF es _ h5 h S hL
    have hne : ∀ {as : List Expr},okEs sc r es as = true → as ≠ [] := fun hq e => by
      subst e
      cases es with
      | nil => simp only [wpEs] at h; cases b <;> exact h.elim
      | cons _ _ => have := okEs_length hq; simp at this
    have hne' := hne h5
    have go : ∀ {as : List Expr},as ≠ [] → wpAny (model prog w) A (spliced (trees (envOf cn sc L a ccd) as)) (fun vs s' => EsP prog w g0 g L m s0 l (fun vs H1 => biV b vs H1 Q) vs s' ∧ vs.length = as.length) NoE s → ∀ {pos : Pos},
        wpAny (model prog w) A (callWith pos b.val [] (trees (envOf cn sc L a ccd) as) []) (EP prog w g0 g L m s0 l Q) NoE s := by
      intro as ha ih pos
      cases as with
      | nil => exact absurd rfl ha
      | cons y ys =>
        have fin : ∀ vs s',(EsP prog w g0 g L m s0 l (fun vs H1 => biV b vs H1 Q) vs s' ∧ vs.length = (y :: ys).length) → wpAny (model prog w) A (call b.val ([] ++ vs)) (EP prog w g0 g L m s0 l Q) NoE s' := fun vs s' q => by
          obtain ⟨⟨ys,H',l',q1,q2,q3,q4⟩,_⟩ := q
          exact EP.wle q3 (bi_ok hA.hnd q4 q2 q1)
        cases b <;> first
          | exact callWith_builtin (trees_plain _ _) (evalArgs_plain (wpAny_mono ih fin fun _ _ e => e))
          | exact PyProof.Rows.callWith_type (trees_plain _ _) (evalArgs_plain (wpAny_mono ih fin fun _ _ e => e))
    exact go hne' ih
  | .append o x => by
    intro ex hk H l s Q h S hL
    simp only [okE] at hk
    split at hk
    case h_2 => exact absurd hk Bool.false_ne_true
    simp only [Bool.and_eq_true,beq_iff_eq] at hk
    obtain ⟨⟨⟨⟨h1,h2⟩,h3⟩,h4⟩,h5⟩ := hk
    subst h1
    simp only [wpE] at h
    rename_i ov ap y pp
    have h6 : okEs sc r [x] [y] = true := by simp only [okEs,Bool.and_eq_true]; exact ⟨h5,rfl⟩
    refine methodCall_ok h3 (by rw [h2]; exact beq_self_eq_true _) h6 (by simp) (wpAny_mono (sE hK hA hF o _ h4 h S hL) (fun v s' q pl => ?_) fun _ _ e => e)
    obtain ⟨y,H',l',⟨⟨b,xs,rfl,q1⟩,q5⟩,q2,q3,q4⟩ := q
    cases q2
    obtain ⟨own,R⟩ := q4.rep
    obtain ⟨vs,n,m1,m2⟩ := R.obj b _ q1
    refine listMethod_K q4.nw m1 PySem.F.slot_list_append PySem.F.type_list_append ?_
    rw [backTo_ok _ _ h6]
    refine callWith_builtin (trees_plain _ _) (evalArgs_plain (spliced_cons (wpAny_mono (sE hK hA hF x _ h5 q5 q4 (hL.mono q3)) (fun u s' q => spliced_nil ?_) fun _ _ e => e)))
    obtain ⟨y,H3,l3,r1,r2,r3,r4⟩ := q
    exact EP.wle (q3.trans r3) (append_ok r4 (.ref b) r2 r1)
  | .pop o => by
    intro ex hk H l s Q h S hL
    simp only [okE] at hk
    split at hk
    case h_2 => exact absurd hk Bool.false_ne_true
    simp only [Bool.and_eq_true,beq_iff_eq] at hk
    obtain ⟨⟨⟨h1,h2⟩,h3⟩,h4⟩ := hk
    subst h1
    simp only [wpE] at h
    have h6 : okEs sc r [] [] = true := by simp only [okEs]; rfl
    refine methodCall_ok h3 (by rw [h2]; exact beq_self_eq_true _) h6 (by simp) (wpAny_mono (sE hK hA hF o _ h4 h S hL) (fun v s' q pl => ?_) fun _ _ e => e)
    obtain ⟨y,H',l',q1,q2,q3,q4⟩ := q
    have hx := popV_list q1
    obtain ⟨b,xs,rfl,q5⟩ := hx
    cases q2
    obtain ⟨own,R⟩ := q4.rep
    obtain ⟨vs,n,m1,m2⟩ := R.obj b _ q5
    refine listMethod_K q4.nw m1 PySem.F.slot_list_pop PySem.F.type_list_pop ?_
    rw [backTo_ok _ _ h6]
    exact callWith_builtin (trees_plain _ _) (evalArgs_nil3 (EP.wle q3 (pop_ok q4 (.ref b) q1)))
  | .pop0 o => by
    intro ex hk H l s Q h S hL
    simp only [okE] at hk
    split at hk
    case h_2 => exact absurd hk Bool.false_ne_true
    simp only [Bool.and_eq_true,beq_iff_eq] at hk
    obtain ⟨⟨⟨h1,h2⟩,h3⟩,h4⟩ := hk
    subst h1
    simp only [wpE] at h
    rename_i ov ap k0 p0 pp
    have h6 : okEs sc r [.int 0] [.Constant (.int 0) k0 p0] = true := by simp only [okEs,okE]; rfl
    refine methodCall_ok h3 (by rw [h2]; exact beq_self_eq_true _) h6 (by simp) (wpAny_mono (sE hK hA hF o _ h4 h S hL) (fun v s' q pl => ?_) fun _ _ e => e)
    obtain ⟨y,H',l',q1,q2,q3,q4⟩ := q
    obtain ⟨b,xs,rfl,q5⟩ := pop0V_list q1
    cases q2
    obtain ⟨own,R⟩ := q4.rep
    obtain ⟨vs,n,m1,m2⟩ := R.obj b _ q5
    refine listMethod_K q4.nw m1 PySem.F.slot_list_pop PySem.F.type_list_pop ?_
    rw [backTo_ok _ _ h6]
    exact callWith_builtin (trees_plain _ _) (evalArgs_plain (spliced_cons (wpAny_Constant_int (spliced_nil (EP.wle q3 (pop0_ok (q4.tok _) (.ref b) q1))))))
  | .dget o k d => by
    intro ex hk H l s Q h S hL
    simp only [okE] at hk
    split at hk
    case h_2 => exact absurd hk Bool.false_ne_true
    simp only [Bool.and_eq_true,beq_iff_eq] at hk
    obtain ⟨⟨⟨⟨⟨h1,h2⟩,h3⟩,h4⟩,h5⟩,h7⟩ := hk
    subst h1
    simp only [wpE] at h
    rename_i ov ap x y pp
    have h6 : okEs sc r [k,d] [x,y] = true := by simp only [okEs,Bool.and_eq_true]; exact ⟨h5,h7,rfl⟩
    refine methodCall_ok h3 (by rw [h2]; exact beq_self_eq_true _) h6 (by simp) (wpAny_mono (sE hK hA hF o _ h4 h S hL) (fun v s' q pl => ?_) fun _ _ e => e)
    obtain ⟨y,H',l',⟨⟨b,mm,rfl,q1⟩,q5⟩,q2,q3,q4⟩ := q
    cases q2
    obtain ⟨own,R⟩ := q4.rep
    obtain ⟨ob,kvs,m1,m2,m3,m4⟩ := R.obj b _ q1
    obtain ⟨_,_,hex,_⟩ := id m2
    refine getMethod_builtin (T := "dict") ⟨_,q4.nw.get m1,hex.1⟩ F.plainAttrs_dict F.slot_dict_get F.type_dict_get (fun a e => by cases e; exact ⟨_,q4.nw.get m1,hex.2.1⟩) ?_
    rw [backTo_ok _ _ h6]
    refine callWith_builtin (trees_plain _ _) (evalArgs_plain (spliced_cons (wpAny_mono (sE hK hA hF k _ h5 q5 q4 (hL.mono q3)) (fun u s' q => ?_) fun _ _ e => e)))
    obtain ⟨y1,H3,l3,r1,r2,r3,r4⟩ := q
    refine spliced_cons (wpAny_mono (sE hK hA hF d _ h7 r1 r4 (hL.mono (q3.trans r3))) (fun u' s' q => spliced_nil ?_) fun _ _ e => e)
    obtain ⟨y2,H4,l4,t1,t2,t3,t4⟩ := q
    exact EP.wle (q3.trans (r3.trans t3)) (dget_ok t4 (.ref b) (r2.mono t3) t2 t1)
  | .sfind o x => by
    intro ex hk H l s Q h S hL
    simp only [okE] at hk
    split at hk
    case h_2 => exact absurd hk Bool.false_ne_true
    simp only [Bool.and_eq_true,beq_iff_eq] at hk
    obtain ⟨⟨⟨h1,h2⟩,h3⟩,h4⟩ := hk
    subst h1 h3
    simp only [wpE] at h
    rename_i k0 p0 ap y pp
    have h6 : okEs sc r [x] [y] = true := by simp only [okEs,Bool.and_eq_true]; exact ⟨h4,rfl⟩
    refine methodCall_ok rfl (by rw [h2]; exact beq_self_eq_true _) h6 (by simp) (wpAny_Constant_str fun pl => ?_)
    refine getMethod_builtin (T := "str") (typeIs_str _ _ _) F.plainAttrs_str F.slot_str_find F.type_str_find (fun a e => by cases e) ?_
    rw [backTo_ok _ _ h6]
    refine callWith_builtin (trees_plain _ _) (evalArgs_plain (spliced_cons (wpAny_mono (sE hK hA hF x _ h4 h (S.tok _) hL) (fun u s' q => spliced_nil ?_) fun _ _ e => e)))
    obtain ⟨y1,H3,l3,r1,r2,r3,r4⟩ := q
    have hy : y1 = .str [55] ∧ Q (.int 7) H3 := by
      unfold sfindV at r1
      split at r1
      · exact ⟨rfl,r1⟩
      · exact r1.elim
    obtain ⟨rfl,hQ⟩ := hy
    cases r2
    refine SC.find ?_
    rw [find7]
    exact EP.le (r4.ep (.int _ _) hQ _) r3
  | .compA e x n => by
    intro ex hk H l s Q h S hL
    simp only [okE] at hk
    split at hk
    case h_2 => exact absurd hk Bool.false_ne_true
    simp only [Bool.and_eq_true,beq_iff_eq,Bool.not_eq_true'] at hk
    obtain ⟨⟨⟨⟨⟨⟨⟨h1,h2⟩,h3⟩,h4⟩,h5⟩,h6⟩,h7⟩,h8⟩ := hk
    subst h1 h2 h3
    simp only [wpE] at h
    obtain ⟨c1,c2,c3,c4⟩ := cs_names (x := x) (by rw [beq_iff_eq]; exact h6)
    refine LCg.ListComp_U S.fr (closureFor_none c2) c1 h5 c3 c4 (wpAny_mono (sE hK hA hF e _ h4 h S hL) (fun v s' q => ?_) fun _ _ e => e) (folded_ok h4 _)
    obtain ⟨y,H',l',q1,q2,q3,q4⟩ := q
    refine comp_ok (A := A) q4 hA.hnd q3 q2 q1 (fun u y v C oC m₂ h tk hf hu hn hC hx S' => ?_)
    · refine Attribute_any_ (comp_name h5 c4 hn hC hx (wpAny_mono (rdAttr_st hK.cls hK.attr hA.kin S' hu hf) (fun r s' q => ?_) fun _ _ e => e)) rfl
      exact q
  | .compI e x i => by
    intro ex hk H l s Q h S hL
    simp only [okE] at hk
    split at hk
    case h_2 => exact absurd hk Bool.false_ne_true
    simp only [Bool.and_eq_true,beq_iff_eq,Bool.not_eq_true',decide_eq_true_eq] at hk
    obtain ⟨⟨⟨⟨⟨⟨⟨⟨h1,h2⟩,h3⟩,h9⟩,h4⟩,h5⟩,h6⟩,h7⟩,h8⟩ := hk
    subst h1 h2 h3
    simp only [wpE] at h
    obtain ⟨c1,c2,c3,c4⟩ := cs_names (x := x) (by rw [beq_iff_eq]; exact h6)
    refine LCg.ListComp_U S.fr (closureFor_none c2) c1 h5 c3 c4 (wpAny_mono (sE hK hA hF e _ h4 h S hL) (fun v s' q => ?_) fun _ _ e => e) (folded_ok h4 _)
    obtain ⟨y,H',l',q1,q2,q3,q4⟩ := q
    refine comp_ok (A := A) q4 hA.hnd q3 q2 q1 (fun u y v C oC m₂ h tk hf hu hn hC hx S' => ?_)
    · refine Subscript_ (comp_name h5 c4 hn hC hx (wpAny_Constant_int ?_))
      obtain ⟨k1,T,id,k2,k3⟩ := tupItem_st (A := A) (t := _) (S'.tok _) h9 hu hf
      obtain ⟨ops,hs⟩ := hs_any _ _ _
      refine tail_any k2 k3 (wpAny_mono k1 (fun r s' q => ?_) fun _ _ e => e) hs
      exact ⟨q.1,q.2⟩
theorem sDs (hK : KOk K) (hA : Amb K p loose mean mg mb A g (4 * r + 8) (20 * r + 100)) (hF : Frm A g L (envOf cn sc L a ccd)) : ∀ (es : List E) (xs : List Expr) (ks : List Tx) (keys : List (Option Expr)) (c : Addr) (q : Pos),okEs sc r es xs = true → okKeys ks keys = true → ks.length = es.length → ∀ {H : AH} {l : Led} {s : Shared} {Q : AH → Prop},
    wpDs (spR prog w K p loose mean mg mb) ρ c es ks H Q → St prog w g0 g L m H l s0 s → LR l ρ m → wpAny (model prog w) A (forIn (pairsOf (envOf cn sc L a ccd) q keys xs) PUnit.unit (storePair c)) (fun _ s' => UP prog w g0 g L m s0 l Q s') NoE s
  | [] => by
    intro xs ks keys c q hk hk2 hlen H l s Q h S hL
    simp only [okEs,List.isEmpty_iff] at hk; subst hk
    simp only [wpDs] at h
    have e : pairsOf (envOf cn sc L a ccd) q keys [] = [] := by unfold pairsOf; split <;> first | rfl | contradiction
    rw [e,List.forIn_nil]
    exact wpAny_pure ⟨H,l,h,Le.refl l,S⟩
  | e :: es => by
    intro xs ks keys c q hk hk2 hlen H l s Q h S hL
    simp only [okEs] at hk
    split at hk
    case h_2 => cases hk
    simp only [Bool.and_eq_true] at hk
    simp only [wpDs] at h
    cases ks with
    | nil => cases hlen
    | cons k ks =>
      simp only [okKeys] at hk2
      split at hk2
      case h_2 => cases hk2
      simp only [Bool.and_eq_true,beq_iff_eq] at hk2
      obtain ⟨h1,h2⟩ := hk2
      subst h1
      rw [pairsOf,List.forIn_cons]
      refine wpAny_bind (storePair_ok (wpAny_bind (wpAny_mono (sE hK hA hF e _ hk.1 h (S.tok (s.toks + 1)) hL) (fun v s' q => ?_) fun _ _ e => e)))
      obtain ⟨x,H',l',⟨k',ks',mm,r1,r2,r3,r4⟩,q2,q3,q4⟩ := q
      cases r1
      refine wpAny_bind (wpAny_standAt (wpAny_pure (wpAny_mono (dictSet_ok (Q := fun H2 => wpDs (spR prog w K p loose mean mg mb) ρ c es ks H2 Q) q4 r2 q2 r3 r4) (fun _ s' q => ?_) fun _ _ e => e)))
      obtain ⟨H2,l2,t1,t2,t3⟩ := q
      refine wpAny_mono (sDs hK hA hF es _ ks _ c _ hk.2 h2 (by simpa using hlen) t1 t3 (hL.mono (q3.trans t2))) (fun _ s' q => ?_) fun _ _ e => e
      obtain ⟨H3,l3,u1,u2,u3⟩ := q
      exact ⟨H3,l3,u1,q3.trans (t2.trans u2),u3⟩
theorem sEs (hK : KOk K) (hA : Amb K p loose mean mg mb A g (4 * r + 8) (20 * r + 100)) (hF : Frm A g L (envOf cn sc L a ccd)) : ∀ (es : List E) (xs : List Expr),okEs sc r es xs = true → ∀ {H : AH} {l : Led} {s : Shared} {Q : List V → AH → Prop},
    wpEs (spR prog w K p loose mean mg mb) ρ es H Q → St prog w g0 g L m H l s0 s → LR l ρ m → wpAny (model prog w) A (spliced (trees (envOf cn sc L a ccd) xs)) (fun vs s' => EsP prog w g0 g L m s0 l Q vs s' ∧ vs.length = xs.length) NoE s
  | [] => by
    intro xs hk H l s Q h S hL
    simp only [okEs,List.isEmpty_iff] at hk; subst hk
    simp only [wpEs] at h
    exact spliced_nil ⟨⟨[],H,l,h,.nil,Le.refl l,S⟩,rfl⟩
  | e :: es => by
    intro xs hk H l s Q h S hL
    simp only [okEs] at hk
    split at hk
    case h_2 => exact absurd hk Bool.false_ne_true
    simp only [Bool.and_eq_true] at hk
    simp only [wpEs] at h
    refine spliced_cons (wpAny_mono (sE hK hA hF e _ hk.1 h S hL) (fun v s' q => ?_) fun _ _ e => e)
    obtain ⟨x,H',l',q1,q2,q3,q4⟩ := q
    refine wpAny_mono (sEs hK hA hF es _ hk.2 q1 q4 (hL.mono q3)) (fun vs s' q => ?_) fun _ _ e => e
    obtain ⟨⟨ys,H'',l'',q5,q6,q7,q8⟩,q9⟩ := q
    exact ⟨⟨_,_,_,q5,.cons (q2.mono q7) q6,q3.trans q7,q8⟩,by simp [q9]⟩
theorem sO (hK : KOk K) (hA : Amb K p loose mean mg mb A g (4 * r + 8) (20 * r + 100)) (hF : Frm A g L (envOf cn sc L a ccd)) : ∀ (e : Option E) (x : Option Expr),okO sc r e x = true → ∀ {H : AH} {l : Led} {s : Shared} {Q : Option Int → AH → Prop},
    wpO (spR prog w K p loose mean mg mb) ρ e H Q → St prog w g0 g L m H l s0 s → LR l ρ m → wpAny (model prog w) A (evalPart x (envOf cn sc L a ccd)) (fun v s' => ∃ i H' l',Q i H' ∧ IsPart v i ∧ Le l l' ∧ St prog w g0 g L m H' l' s0 s') NoE s
  | none => by
    intro x hk H l s Q h S hL
    simp only [okO,Option.isNone_iff_eq_none] at hk; subst hk
    simp only [wpO] at h
    rw [evalPart_none]
    exact wpAny_pure ⟨none,H,l,h,.none,Le.refl l,S⟩
  | some e => by
    intro x hk H l s Q h S hL
    simp only [okO] at hk
    split at hk
    case h_2 => exact absurd hk Bool.false_ne_true
    simp only [wpO] at h
    rw [evalPart_some]
    refine wpAny_mono (sE hK hA hF e _ hk h S hL) (fun v s' q => ?_) fun _ _ e => e
    obtain ⟨x,H',l',⟨i,rfl,q1⟩,q2,q3,q4⟩ := q
    cases q2
    exact ⟨some i,H',l',q1,.int _ _,q3,q4⟩
theorem sAnd (hK : KOk K) (hA : Amb K p loose mean mg mb A g (4 * r + 8) (20 * r + 100)) (hF : Frm A g L (envOf cn sc L a ccd)) : ∀ (es : List E) (xs : List Expr),okEs sc r es xs = true → ∀ {pos : Pos} {H : AH} {l : Led} {s : Shared} {Q : Post},
    wpAnd (spR prog w K p loose mean mg mb) ρ es H Q → St prog w g0 g L m H l s0 s → LR l ρ m → wpAny (model prog w) A (eval (.BoolOp .And xs pos) (envOf cn sc L a ccd)) (EP prog w g0 g L m s0 l Q) NoE s
  | [] => by
    intro xs hk pos H l s Q h S hL
    simp only [wpAnd] at h
  | e :: es => by
    intro xs hk pos H l s Q h S hL
    simp only [wpAnd] at h
    simp only [okEs] at hk
    split at hk
    case h_2 => exact absurd hk Bool.false_ne_true
    rename_i x xs
    simp only [Bool.and_eq_true] at hk
    have ih := sE hK hA hF e _ hk.1 h S hL
    cases xs with
    | nil =>
      have he : es.isEmpty = true := by have := okEs_length hk.2; cases es with | nil => rfl | cons _ _ => simp at this
      refine BoolOp_one (wpAny_mono ih (fun v s' q => ?_) fun _ _ e => e)
      obtain ⟨x,H',l',⟨b,rfl,q1,_⟩,q2,q3,q4⟩ := q
      exact ⟨_,_,_,q1 he,q2,q3,q4⟩
    | cons x' xs =>
      have he : es.isEmpty = false := by have := okEs_length hk.2; cases es with | nil => simp at this | cons _ _ => rfl
      refine BoolOp_and (wpAny_mono ih (fun v s' q => ?_) fun _ _ e => e)
      obtain ⟨x,H',l',⟨b,rfl,_,q1⟩,q2,q3,q4⟩ := q
      cases q2
      refine wpAny_truthy_bool ?_
      cases b with
      | false => exact EP.le (q4.ep (.bool _) ((q1 he).1 rfl) s'.toks) q3
      | true => exact EP.wle q3 (sAnd hK hA hF es (x' :: xs) hk.2 ((q1 he).2 rfl) q4 (hL.mono q3))
theorem sOr (hK : KOk K) (hA : Amb K p loose mean mg mb A g (4 * r + 8) (20 * r + 100)) (hF : Frm A g L (envOf cn sc L a ccd)) : ∀ (es : List E) (xs : List Expr),okEs sc r es xs = true → ∀ {pos : Pos} {H : AH} {l : Led} {s : Shared} {Q : Post},
    wpOr (spR prog w K p loose mean mg mb) ρ es H Q → St prog w g0 g L m H l s0 s → LR l ρ m → wpAny (model prog w) A (eval (.BoolOp .Or xs pos) (envOf cn sc L a ccd)) (EP prog w g0 g L m s0 l Q) NoE s
  | [] => by
    intro xs hk pos H l s Q h S hL
    simp only [wpOr] at h
  | e :: es => by
    intro xs hk pos H l s Q h S hL
    simp only [wpOr] at h
    simp only [okEs] at hk
    split at hk
    case h_2 => exact absurd hk Bool.false_ne_true
    rename_i x xs
    simp only [Bool.and_eq_true] at hk
    have ih := sE hK hA hF e _ hk.1 h S hL
    cases xs with
    | nil =>
      have he : es.isEmpty = true := by have := okEs_length hk.2; cases es with | nil => rfl | cons _ _ => simp at this
      refine BoolOp_one (wpAny_mono ih (fun v s' q => ?_) fun _ _ e => e)
      obtain ⟨x,H',l',⟨b,rfl,q1,_⟩,q2,q3,q4⟩ := q
      exact ⟨_,_,_,q1 he,q2,q3,q4⟩
    | cons x' xs =>
      have he : es.isEmpty = false := by have := okEs_length hk.2; cases es with | nil => simp at this | cons _ _ => rfl
      refine BoolOp_or (wpAny_mono ih (fun v s' q => ?_) fun _ _ e => e)
      obtain ⟨x,H',l',⟨b,rfl,_,q1⟩,q2,q3,q4⟩ := q
      cases q2
      refine wpAny_truthy_bool ?_
      cases b with
      | true => exact EP.le (q4.ep (.bool _) ((q1 he).1 rfl) s'.toks) q3
      | false => exact EP.wle q3 (sOr hK hA hF es (x' :: xs) hk.2 ((q1 he).2 rfl) q4 (hL.mono q3))
theorem sAllT (hK : KOk K) (hA : Amb K p loose mean mg mb A g (4 * r + 8) (20 * r + 100)) (hF : Frm A g L (envOf cn sc L a ccd)) : ∀ (es : List E) (xs : List Expr),okEs sc r es xs = true → ∀ {pos : Pos} {whole : Sem Value} {H : AH} {l : Led} {s : Shared} {T F : AH → Prop},
    wpAllT (spR prog w K p loose mean mg mb) ρ es H T F → St prog w g0 g L m H l s0 s → LR l ρ m → wpAny (model prog w) A (isTrue (.BoolOp .And xs pos) (envOf cn sc L a ccd) whole) (TP prog w g0 g L m s0 l T F) NoE s
  | [] => by
    intro xs hk pos whole H l s T F h S hL
    simp only [okEs,List.isEmpty_iff] at hk; subst hk
    simp only [wpAllT] at h
    exact isTrue_and_nil ⟨H,l,fun _ => h,(fun e => by cases e),Le.refl l,S⟩
  | e :: es => by
    intro xs hk pos whole H l s T F h S hL
    simp only [okEs] at hk
    split at hk
    case h_2 => exact absurd hk Bool.false_ne_true
    simp only [Bool.and_eq_true] at hk
    simp only [wpAllT] at h
    refine isTrue_and (wpAny_mono (sT hK hA hF e _ hk.1 h S hL) (fun b s' q => ?_) fun _ _ e => e)
    obtain ⟨H',l',q1,q2,q3,q4⟩ := q
    cases b with
    | false => exact ⟨H',l',(fun e => by cases e),fun _ => q2 rfl,q3,q4⟩
    | true => exact wpAny_mono (sAllT hK hA hF es _ hk.2 (q1 rfl) q4 (hL.mono q3)) (fun b s' q => q.le q3) fun _ _ e => e
theorem sAnyT (hK : KOk K) (hA : Amb K p loose mean mg mb A g (4 * r + 8) (20 * r + 100)) (hF : Frm A g L (envOf cn sc L a ccd)) : ∀ (es : List E) (xs : List Expr),okEs sc r es xs = true → ∀ {pos : Pos} {whole : Sem Value} {H : AH} {l : Led} {s : Shared} {T F : AH → Prop},
    wpAnyT (spR prog w K p loose mean mg mb) ρ es H T F → St prog w g0 g L m H l s0 s → LR l ρ m → wpAny (model prog w) A (isTrue (.BoolOp .Or xs pos) (envOf cn sc L a ccd) whole) (TP prog w g0 g L m s0 l T F) NoE s
  | [] => by
    intro xs hk pos whole H l s T F h S hL
    simp only [okEs,List.isEmpty_iff] at hk; subst hk
    simp only [wpAnyT] at h
    exact isTrue_or_nil ⟨H,l,(fun e => by cases e),fun _ => h,Le.refl l,S⟩
  | e :: es => by
    intro xs hk pos whole H l s T F h S hL
    simp only [okEs] at hk
    split at hk
    case h_2 => exact absurd hk Bool.false_ne_true
    simp only [Bool.and_eq_true] at hk
    simp only [wpAnyT] at h
    refine isTrue_or (wpAny_mono (sT hK hA hF e _ hk.1 h S hL) (fun b s' q => ?_) fun _ _ e => e)
    obtain ⟨H',l',q1,q2,q3,q4⟩ := q
    cases b with
    | true => exact ⟨H',l',fun _ => q1 rfl,(fun e => by cases e),q3,q4⟩
    | false => exact wpAny_mono (sAnyT hK hA hF es _ hk.2 (q2 rfl) q4 (hL.mono q3)) (fun b s' q => q.le q3) fun _ _ e => e
theorem sT (hK : KOk K) (hA : Amb K p loose mean mg mb A g (4 * r + 8) (20 * r + 100)) (hF : Frm A g L (envOf cn sc L a ccd)) : ∀ (e : E) (ex : Expr),okE sc r e ex = true → ∀ {H : AH} {l : Led} {s : Shared} {T F : AH → Prop},
    wpT (spR prog w K p loose mean mg mb) ρ e H T F → St prog w g0 g L m H l s0 s → LR l ρ m → wpAny (model prog w) A (isTrue ex (envOf cn sc L a ccd) (eval ex (envOf cn sc L a ccd))) (TP prog w g0 g L m s0 l T F) NoE s
  | .not x => by
    intro ex hk H l s T F h S hL
    simp only [okE] at hk
    split at hk
    case h_2 => exact absurd hk Bool.false_ne_true
    simp only [wpT] at h
    refine isTrue_not (wpAny_mono (sT hK hA hF x _ hk h S hL) (fun b s' q => ?_) fun _ _ e => e)
    obtain ⟨H',l',q1,q2,q3,q4⟩ := q
    exact ⟨H',l',(fun e => q2 (by cases b <;> simp_all)),(fun e => q1 (by cases b <;> simp_all)),q3,q4⟩
  | .and es => by
    intro ex hk H l s T F h S hL
    simp only [okE] at hk
    split at hk
    case h_2 => exact absurd hk Bool.false_ne_true
    simp only [wpT] at h
    exact sAllT hK hA hF es _ hk h S hL
  | .or es => by
    intro ex hk H l s T F h S hL
    simp only [okE] at hk
    split at hk
    case h_2 => exact absurd hk Bool.false_ne_true
    simp only [wpT] at h
    exact sAnyT hK hA hF es _ hk h S hL
  | .cmp o x y => by
    intro ex hk H l s T F h S hL
    simp only [okE] at hk
    split at hk
    case h_2 => exact absurd hk Bool.false_ne_true
    simp only [Bool.and_eq_true,beq_iff_eq,Bool.not_eq_true'] at hk
    obtain ⟨⟨⟨h1,h4⟩,h2⟩,h3⟩ := hk
    subst h1
    simp only [wpT] at h
    refine wpAny_isTrue_Compare1 (wpAny_mono (sE hK hA hF x _ h2 h S hL) (fun v s' q => ?_) fun _ _ e => e) h4
    obtain ⟨x,H',l',q1,q2,q3,q4⟩ := q
    refine wpAny_mono (sE hK hA hF y _ h3 q1 q4 (hL.mono q3)) (fun v s' q => ?_) fun _ _ e => e
    obtain ⟨y,H'',l'',q5,q6,q7,q8⟩ := q
    obtain ⟨P,k1,k2⟩ := cmp_ok (A := A) (by have := hA.units; omega) q8 o (q2.mono q7) q6 q5
    exact k2 _ fun b t hr => wpAny_truthy_bool ⟨H'',l'',fun e => k1.1 (hr.mp e),(fun e => k1.2 fun hp => by rw [hr.mpr hp] at e; cases e),q3.trans q7,q8.tok t⟩
  | .loc x => by
    intro ex hk H l s T F h S hL
    simp only [wpT] at h
    obtain ⟨b,hb,h1,h2⟩ := h
    have h' : wpE (spR prog w K p loose mean mg mb) ρ (.loc x) H (fun v H1 => ∃ b,v = .bool b ∧ (b = true → T H1) ∧ (b = false → F H1)) := by
      simp only [wpE]; exact ⟨_,hb,b,rfl,h1,h2⟩
    have ih := sE hK hA hF (.loc x) ex hk h' S hL
    simp only [okE] at hk
    split at hk
    case h_2 => exact absurd hk Bool.false_ne_true
    exact isTrue_plain (wpAny_mono ih (fun v s' q => tp_of_ep q) fun _ _ e => e)
  | .bool b => by
    intro ex hk H l s T F h S hL
    simp only [wpT] at h
    have h' : wpE (spR prog w K p loose mean mg mb) ρ (.bool b) H (fun v H1 => ∃ b,v = .bool b ∧ (b = true → T H1) ∧ (b = false → F H1)) := by
      simp only [wpE]; exact ⟨b,rfl,h.1,h.2⟩
    have ih := sE hK hA hF (.bool b) ex hk h' S hL
    simp only [okE] at hk
    split at hk
    case h_2 => exact absurd hk Bool.false_ne_true
    exact isTrue_plain (wpAny_mono ih (fun v s' q => tp_of_ep q) fun _ _ e => e)
  | .call f es => by
    intro ex hk H l s T F h S hL
    simp only [wpT] at h
    have hk0 := hk
    simp only [okE] at hk
    split at hk
    case h_2 => exact absurd hk Bool.false_ne_true
    simp only [Bool.and_eq_true,beq_iff_eq,decide_eq_true_eq] at hk
    obtain ⟨⟨⟨⟨h1,h2⟩,h3⟩,h4⟩,h5⟩ := hk
    subst h1
    refine isTrue_plain (wpAny_mono (Q := EP prog w g0 g L m s0 l (fun v H1 => ∃ b,v = .bool b ∧ (b = true → T H1) ∧ (b = false → F H1))) ?_ (fun v s' q => tp_of_ep q) fun _ _ e => e)
    refine Call_ (name_K S.fr hA.kin (topRead_of hA.top) (hK.gl f h3) ?_ hF.kind (kind_gl h2) (nodebug_gl h2))
    refine callWith_fin (hK.keepF f) hA.kin S h5 h (wpAny_mono (sEs hK hA hF es _ h5 h S hL) (fun _ _ q => q.1) fun _ _ e => e) fun ys H' l' vs s' q1 q2 q3 q4 => ?_
    exact EP.wle q3 (callFn_ok hA hF h4 q4 q2 q1)
  | .meth c o n es => by
    intro ex hk H l s T F h S hL
    simp only [wpT] at h
    simp only [okE] at hk
    split at hk
    case h_2 => exact absurd hk Bool.false_ne_true
    simp only [Bool.and_eq_true,beq_iff_eq,decide_eq_true_eq] at hk
    obtain ⟨⟨⟨⟨⟨⟨h1,h2⟩,h3⟩,h4⟩,h5⟩,h6⟩,h7⟩ := hk
    subst h1
    refine isTrue_plain (wpAny_mono (Q := EP prog w g0 g L m s0 l (fun v H1 => ∃ b,v = .bool b ∧ (b = true → T H1) ∧ (b = false → F H1))) ?_ (fun v s' q => tp_of_ep q) fun _ _ e => e)
    refine methodCall_ok h3 (by rw [h2]; exact beq_self_eq_true _) h7 h4 (wpAny_mono (sE hK hA hF o _ h6 h S hL) (fun v s' q pl => ?_) fun _ _ e => e)
    obtain ⟨x,H',l',⟨b,mm,f,rfl,q1,q5,q6,q7⟩,q2,q3,q4⟩ := q
    cases q2
    rw [q6] at h5
    simp only [decide_eq_true_eq] at h5
    obtain ⟨own,R⟩ := q4.rep
    obtain ⟨d,es',k,m1,m2,m3,m4⟩ := R.obj b _ q1
    have C := hK.cls c
    have M := hK.meth c n f q6
    simp only [clsOk,Bool.and_eq_true,beq_iff_eq] at C
    simp only [methOk,Bool.and_eq_true,beq_iff_eq] at M
    refine method_inst q4.fr hA.kin (InstAt.of_news q4.nw m1 m2) (name := n.str) C.1.1.1.1.1.1.1 M.1 M.2 (m4.getL_none q5) ?_
    refine callWith_fin (hK.keepF f) hA.kin q4 h7 q7 (wpAny_mono (sEs hK hA hF es _ h7 q7 q4 (hL.mono q3)) (fun _ _ q => q.1) fun _ _ e => e) fun ys H3 l3 vs s3 r1 r2 r3 r4 => ?_
    exact EP.wle (q3.trans r3) (callFn_ok hA hF h5 r4 (.cons (.ref b) r2) r1)
  | .gint _ _ | .int _ | .str _ | .none | .pow _ _ | .neg _ | .attr _ _ | .bin _ _ _ | .ite _ _ _ | .list _ | .tup _ | .dict _ _ | .dict0 _ | .idx _ _ | .slice _ _ _ | .new _ _ | .bi _ _ | .append _ _ | .pop _ | .pop0 _ | .dget _ _ _ | .sfind _ _ | .compA _ _ _ | .compI _ _ _ => by
    intro ex hk H l s T F h S hL
    simp only [wpT] at h
end
end
end
section
inductive FR (l : Led) : Fl → Flow → Prop
  | next : FR l .next .next
  | cont : FR l .cont .cont
  | ret {v : V} {u : Value} : VR l v u → FR l (.ret v) (.ret u)
theorem FR.mono {l l' : Led} (h : Le l l') {a : Fl} {b : Flow} : FR l a b → FR l' a b
  | .next => .next
  | .cont => .cont
  | .ret v => .ret (v.mono h)
def SP (prog : Program) (w : World) (g0 g : Heap) (L : Addr) (s0 : Shared) (l : Led) (Q : SPost) (fl : Flow) (s' : Shared) : Prop :=
  ∃ fl' ρ' H' m' l',Q fl' ρ' H' ∧ FR l' fl' fl ∧ Le l l' ∧ St prog w g0 g L m' H' l' s0 s' ∧ LR l' ρ' m'
def LeBut (I : Addr) (l l' : Led) : Prop := ∀ p ∈ l,mutObj p.2 = false → p.1 ≠ I → p ∈ l'
theorem isIt_frozen {o : Obj} (h : isIt o = true) : mutObj o = false := by
  unfold isIt at h
  split at h
  · rename_i n hc
    simp only [Bool.and_eq_true,bne_iff_ne] at h
    simp only [mutObj,hc,Bool.or_eq_false_iff,beq_eq_false_iff_ne,ne_eq,Value.type.injEq]
    exact ⟨h.1.1,h.1.2⟩
  · cases h
section
variable {prog : Program} {w : World} {A : Around} {s0 s : Shared} {K : Frag} {g0 g : Heap} {L I : Addr} {m : Str → Option Value} {H : AH} {l : Led} {ρ : Rho} {env : Env}
theorem SP.le {Q : SPost} {fl : Flow} {s : Shared} {l l' : Led} (h : SP prog w g0 g L s0 l' Q fl s) (k : Le l l') : SP prog w g0 g L s0 l Q fl s :=
  let ⟨a,b,c,d,e,h1,h2,h3,h4,h5⟩ := h; ⟨a,b,c,d,e,h1,h2,k.trans h3,h4,h5⟩
theorem LeBut.trans_le {l l' l'' : Led} (h : LeBut I l l') (k : Le l' l'') : LeBut I l l'' := fun p hp hm hn => k p (h p hp hm hn) hm
theorem LeBut.trans {l l' l'' : Led} (h : LeBut I l l') (k : LeBut I l' l'') : LeBut I l l'' := fun p hp hm hn => k p (h p hp hm hn) hm hn
theorem LeBut.le {l l' : Led} (h : LeBut I l l') (hI : I ∉ l.map (·.1)) : Le l l' := fun p hp hm => h p hp hm fun e => hI (e ▸ List.mem_map.mpr ⟨p,hp,rfl⟩)
theorem St.turn (S : St prog w g0 g L m H l s0 s) {o o' : Obj} {h' : Heap} {tk : Nat} (hm : (I,o) ∈ l) (hi : isIt o = true) (hk : ∀ b x,b ∉ [I] → s.heap.get? b = some x → h'.get? b = some x) (ho' : h'.get? I = some o') :
    LeBut I l (upd l I o') ∧ LeT l (upd l I o') ∧ (I,o') ∈ upd l I o' ∧ St prog w g0 g L m H (upd l I o') s0 { s with heap := h',toks := tk } := by
  obtain ⟨own,R⟩ := S.rep
  have z := S.nw _ hm
  have hg0 : g0.get? I = none := by
    cases e : g0.get? I with
    | none => rfl
    | some x => have := S.sub _ _ e; rw [z.2.2] at this; cases this
  have hT := LeT.updIt R.nodup o' hm hi
  have F' : Fr g L h' m := by
    obtain ⟨oL,a1,a2,hL,a3⟩ := S.fr.ns
    refine ⟨⟨oL,a1,a2,hk L oL (by simpa using Ne.symm z.2.1) hL,a3⟩,fun b x e => hk b x ?_ (S.fr.keep b x e),S.fr.above⟩
    intro hb
    rw [List.mem_singleton] at hb
    rw [hb,z.2.2] at e; cases e
  have N' : News g L h' (upd l I o') := by
    intro q hq
    obtain ⟨p,hp,rfl⟩ := List.mem_map.mp hq
    by_cases e : p.1 = I
    · simp only [e,if_true]; exact ⟨ho',z.2⟩
    · simp only [e,if_false]
      exact ⟨hk _ _ (by simpa using e) (S.nw p hp).1,(S.nw p hp).2⟩
  exact ⟨fun p hp _ hn => upd_other hp hn,hT,upd_self hm,S.to F' N' ⟨own,R.turnIt hm hi hg0 hT⟩⟩
theorem St.drop (S : St prog w g0 g L m H l s0 s) {o : Obj} {h' : Heap} {tk : Nat} (hm : (I,o) ∈ l) (hi : isIt o = true) (hk : ∀ b x,b ∉ [I] → s.heap.get? b = some x → h'.get? b = some x) :
    ∃ l',LeBut I l l' ∧ LeT l l' ∧ St prog w g0 g L m H l' s0 { s with heap := h',toks := tk } := by
  obtain ⟨own,R⟩ := S.rep
  have z := S.nw _ hm
  have hg0 : g0.get? I = none := by
    cases e : g0.get? I with
    | none => rfl
    | some x => have := S.sub _ _ e; rw [z.2.2] at this; cases this
  have hH : H I = none := by
    cases e : H I with
    | none => rfl
    | some x => exact ((R.obj I x e).notIt R.nodup hm hi hg0).elim
  have hmem : ∀ {p : Addr × Obj},p ∈ l → p.1 ≠ I → p ∈ l.filter (fun p => p.1 != I) := fun hp hn => List.mem_filter.mpr ⟨hp,by simpa using hn⟩
  have hT : LeT l (l.filter (fun p => p.1 != I)) := fun p hp hc => hmem hp fun e => by
    have : o = p.2 := uniq R.nodup hm (by rw [← e]; exact hp)
    rw [this,isIt,hc] at hi; revert hi; decide
  have F' : Fr g L h' m := by
    obtain ⟨oL,a1,a2,hL,a3⟩ := S.fr.ns
    refine ⟨⟨oL,a1,a2,hk L oL (by simpa using Ne.symm z.2.1) hL,a3⟩,fun b x e => hk b x ?_ (S.fr.keep b x e),S.fr.above⟩
    intro hb
    rw [List.mem_singleton] at hb
    rw [hb,z.2.2] at e; cases e
  have N' : News g L h' (l.filter (fun p => p.1 != I)) := fun p hp => by
    obtain ⟨h1,h2⟩ := List.mem_filter.mp hp
    have hn : p.1 ≠ I := by simpa using h2
    exact ⟨hk _ _ (by simpa using hn) (S.nw p h1).1,(S.nw p h1).2⟩
  refine ⟨_,fun p hp _ hn => hmem hp hn,hT,S.to F' N' ⟨fun d => if d = I then none else own d,⟨(List.filter_sublist.map _).nodup R.nodup,fun b ob hb => ?_,fun d b e => ?_⟩⟩⟩
  · have hbI : b ≠ I := fun e => by rw [e,hH] at hb; cases hb
    have hb' := R.obj b ob hb
    cases ob with
    | inst c m' =>
      obtain ⟨d,es,n,h1,h2,h3,h4⟩ := hb'
      have hd : d ≠ I := fun e => by
        subst e
        have := uniq R.nodup h2 hm; subst this; simp [isIt] at hi
      exact ⟨d,es,n,hmem h1 hbI,hmem h2 hd,(by show (if d = I then none else own d) = some b; rw [if_neg hd]; exact h3),h4.monoT hT⟩
    | list xs => obtain ⟨vs,n,h1,h2⟩ := hb'; exact ⟨vs,n,hmem h1 hbI,h2.monoT hT⟩
    | sd m' => obtain ⟨o,kvs,h1,h2,h3,h4⟩ := hb'; exact ⟨o,kvs,hmem h1 hbI,h2,h3.monoT hT,h4⟩
    | idt m' => obtain ⟨o,kvs,h1,h2,h3,h4⟩ := hb'; exact ⟨o,kvs,hmem h1 hbI,h2,h3.monoT hT,h4⟩
    | td k =>
      obtain ⟨o,es,ep,xs,h1,h2,h3,h4,h5,h6,h7⟩ := hb'
      exact ⟨o,es,ep,xs,hmem h1 hbI,h2,h3,h4,h5,fun x hx => let ⟨ok,hm',tk⟩ := h6 x hx; ⟨ok,hT _ hm' tk.1,tk⟩,h7⟩
    | ext ns => exact hb'
  · have e : (if d = I then none else own d) = some b := e
    by_cases hd : d = I
    · rw [if_pos hd] at e; cases e
    · rw [if_neg hd] at e
      have h := R.ownin d b e
      obtain ⟨p,hp,rfl⟩ := List.mem_map.mp h.1
      exact ⟨List.mem_map.mpr ⟨p,hmem hp hd,rfl⟩,h.2⟩
theorem St.newIt (S : St prog w g0 g L m H l s0 s) {o : Obj} (hf : o.isFreed = false) : St prog w g0 g L m H ((s.heap.objs.size,o) :: l) s0 { s with heap := s.heap.push o } := by
  obtain ⟨own,R⟩ := S.rep
  exact S.to (t := s.toks) (S.fr.push o) (S.nw.push S.fr o hf) ⟨own,R.more S.fresh⟩
theorem while_unf {test : Expr} {body : List Stmt} {R : Result → Shared → Prop}
    (h : wpAny (model prog w) A (isTrue test env (eval test env)) (fun b s₂ =>
        if b then wpAny (model prog w) A (execs body env) (fun f s₃ => match f with
            | .next | .cont => codeAny (model prog w) A (.whileLoop test body [] env) R s₃
            | .brk => R (.ok .next) s₃
            | .ret v => R (.ok (.ret v)) s₃) NoE s₂
        else R (.ok .next) s₂) NoE s) : codeAny (model prog w) A (.whileLoop test body [] env) R s := by
  refine codeAny_of_tree ?_
  show wpAny _ A ((whileTurn test body [] env).onRaise (fun x => do noteFrame x env; theTreesLotGoes x)) _ _ s
  refine wpAny_noted (wpAny_mono (E := NoE) ?_ (fun _ _ x => x) fun _ _ x => x.elim)
  simp only [whileTurn]
  refine wpAny_bind (wpAny_mono h (fun b s₂ h₂ => ?_) fun _ _ h' => h')
  cases b with
  | false =>
    simp only [Bool.false_eq_true,if_false] at h₂ ⊢
    exact wpAny_bind (wpAny_execs_nil (wpAny_pure h₂))
  | true =>
    simp only [if_true] at h₂ ⊢
    refine wpAny_bind (wpAny_mono h₂ (fun f s₃ h₃ => ?_) fun _ _ h' => h')
    cases f with
    | next => exact wpAny_pure ⟨rfl,h₃⟩
    | cont => exact wpAny_pure ⟨rfl,h₃⟩
    | brk => exact wpAny_pure h₃
    | ret v => exact wpAny_pure h₃
theorem for_unf {target : Expr} {it : Value} {body : List Stmt} {R : Result → Shared → Prop}
    (h : wpAny (model prog w) A (pyNext it) (fun r s₁ => match r with
        | none => R (.ok .next) s₁
        | some v => wpAny (model prog w) A (letOwnedTupleGo target it v) (fun _ s₁ => wpAny (model prog w) A (assign target env v) (fun _ s₂ => wpAny (model prog w) A (execs body env) (fun f s₃ => match f with
          | .next | .cont => codeAny (model prog w) A (.forLoop target it body [] env) R s₃
          | .brk => R (.ok .next) s₃
          | .ret v => R (.ok (.ret v)) s₃) NoE s₂) NoE s₁) NoE s₁) NoE s) : codeAny (model prog w) A (.forLoop target it body [] env) R s := by
  refine codeAny_of_tree ?_
  show wpAny _ _ ((forTurn target it body [] env).onRaise (fun x => do noteFrame x env; theTreesLotGoes x)) _ _ s
  refine wpAny_noted (wpAny_mono (E := NoE) ?_ (fun _ _ x => x) fun _ _ x => x.elim)
  simp only [forTurn]
  refine wpAny_bind (wpAny_standAt (wpAny_bind (wpAny_onRaise (wpAny_mono h (fun r s₁ h₁ => ?_) fun _ _ h' => h'.elim))))
  cases r with
  | none => exact wpAny_pure ⟨rfl,codeAny_block (wpAny_execs_nil h₁)⟩
  | some v =>
    refine wpAny_bind (wpAny_mono h₁ (fun _ s₁ h₁ => ?_) fun _ _ h' => h')
    refine wpAny_bind (wpAny_mono h₁ (fun _ s₂ h₂ => wpAny_bind (wpAny_mono h₂ (fun f s₃ h₃ => ?_) fun _ _ h' => h')) fun _ _ h' => h')
    cases f with
    | next => exact wpAny_pure ⟨rfl,h₃⟩
    | cont => exact wpAny_pure ⟨rfl,h₃⟩
    | brk => exact wpAny_pure h₃
    | ret v => exact wpAny_pure h₃
def ItIn (I : Addr) (P : Nat → Obj → Prop) (i : Nat) (l : Led) : Prop := ∃ o,(I,o) ∈ l ∧ isIt o = true ∧ P i o
theorem ItIn.le {P : Nat → Obj → Prop} {i : Nat} {l l' : Led} (h : ItIn I P i l) (k : Le l l') : ItIn I P i l' :=
  let ⟨o,a,b,c⟩ := h; ⟨o,k _ a (isIt_frozen b),b,c⟩
structure LoopOk (prog : Program) (w : World) (A : Around) (g0 g : Heap) (L I : Addr) (s0 : Shared) (env : Env) (target : Expr) (body : List Stmt) (src : AH → Prop) (set : V → Rho → Option Rho) (B : Rho → AH → SPost → Prop) (all : List V) (J : Nat → Led → Prop) : Prop where
  mono : ∀ i l l',J i l → Le l l' → J i l'
  item : ∀ i v H m l s,all[i]? = some v → src H → St prog w g0 g L m H l s0 s → J i l → wpAny (model prog w) A (pyNext (.ref I)) (fun r s' => ∃ val l',r = some val ∧ VR l' v val ∧ LeBut I l l' ∧ LeT l l' ∧ J (i + 1) l' ∧ St prog w g0 g L m H l' s0 s') NoE s
  done : ∀ H m l s,src H → St prog w g0 g L m H l s0 s → J all.length l → wpAny (model prog w) A (pyNext (.ref I)) (fun r s' => r = none ∧ ∃ l',LeBut I l l' ∧ LeT l l' ∧ St prog w g0 g L m H l' s0 s') NoE s
  own : ∀ i v val H m l s,VR l v val → St prog w g0 g L m H l s0 s → J i l → wpAny (model prog w) A (letOwnedTupleGo target (.ref I) val) (fun _ s' => s' = s) NoE s
  asg : ∀ v ρ ρ1 val H m l s,set v ρ = some ρ1 → St prog w g0 g L m H l s0 s → LR l ρ m → VR l v val → wpAny (model prog w) A (assign target env val) (fun _ s' => ∃ m' l',Le l l' ∧ St prog w g0 g L m' H l' s0 s' ∧ LR l' ρ1 m') NoE s
  body : ∀ ρ H m l s Q,B ρ H Q → St prog w g0 g L m H l s0 s → LR l ρ m → wpAny (model prog w) A (execs body env) (SP prog w g0 g L s0 l Q) NoE s
theorem loop_ok {target : Expr} {body : List Stmt} {src : AH → Prop} {set : V → Rho → Option Rho} {B : Rho → AH → SPost → Prop} {all : List V} {J : Nat → Led → Prop} (W : LoopOk prog w A g0 g L I s0 env target body src set B all J)
    {l0 : Led} (hI : I ∉ l0.map (·.1)) {Q : SPost} : ∀ (vs : List V) (i : Nat),all.drop i = vs → i + vs.length = all.length → ∀ (ρ : Rho) (H : AH) (m : Str → Option Value) (l : Led) (s : Shared),LeBut I l0 l → forL src set B vs ρ H Q → St prog w g0 g L m H l s0 s → LR l ρ m → J i l →
      codeAny (model prog w) A (.forLoop target (.ref I) body [] env) (fun r s' => match r with | .ok f => SP prog w g0 g L s0 l0 Q f s' | .error _ => False) s
  | [],i,hd,hn => by
    intro ρ H m l s hle h S hL hi
    simp only [forL] at h
    have e : i = all.length := by simpa using hn
    subst e
    refine for_unf (wpAny_mono (W.done H m l s h.1 S hi) (fun r s' q => ?_) fun _ _ e => e)
    obtain ⟨rfl,l',k1,k2,k3⟩ := q
    exact ⟨.next,ρ,H,m,l',h.2,.next,(hle.trans k1).le hI,k3,hL.monoT k2⟩
  | v :: vs,i,hd,hn => by
    intro ρ H m l s hle h S hL hi
    simp only [forL] at h
    obtain ⟨hsrc,ρ1,hset,hB⟩ := h
    have hv : all[i]? = some v := by
      have := congrArg (·[0]?) hd
      simpa using this
    have hd' : all.drop (i + 1) = vs := by
      have := congrArg (List.drop 1) hd
      simpa [List.drop_drop,Nat.add_comm] using this
    refine for_unf (wpAny_mono (W.item i v H m l s hv hsrc S hi) (fun r s' q => ?_) fun _ _ e => e)
    obtain ⟨val,l',rfl,q1,q2,q3,q4,q5⟩ := q
    refine wpAny_mono (W.own (i + 1) v val H m l' s' q1 q5 q4) (fun _ s2 q => ?_) fun _ _ e => e
    subst q
    refine wpAny_mono (W.asg v ρ ρ1 val H m l' s2 hset q5 (hL.monoT q3) q1) (fun _ s3 q => ?_) fun _ _ e => e
    obtain ⟨m',l'',r1,r2,r3⟩ := q
    refine wpAny_mono (W.body ρ1 H m' l'' s3 _ hB r2 r3) (fun f s4 q => ?_) fun _ _ e => e
    obtain ⟨fl',ρ',H',m2,l3,t1,t2,t3,t4,t5⟩ := q
    have hle' : LeBut I l0 l3 := ((hle.trans q2).trans_le r1).trans_le t3
    have hi' : J (i + 1) l3 := W.mono _ _ _ (W.mono _ _ _ q4 r1) t3
    cases t2 with
    | next => exact loop_ok W hI vs (i + 1) hd' (by simp at hn; omega) _ _ _ _ _ hle' t1 t4 t5 hi'
    | cont => exact loop_ok W hI vs (i + 1) hd' (by simp at hn; omega) _ _ _ _ _ hle' t1 t4 t5 hi'
    | ret hv => exact ⟨_,ρ',H',m2,l3,t1,.ret hv,hle'.le hI,t4,t5⟩
theorem list_item {ax : Addr} {all : List V} (hh : A.handled = none) (hne : ax ≠ I) (i : Nat) (v : V) (H : AH) (m : Str → Option Value) (l : Led) (s : Shared) (hv : all[i]? = some v) (hs : H ax = some (.list all)) (S : St prog w g0 g L m H l s0 s)
    (hi : ItIn I (fun i o => o.cls = .type "list_iterator" ∧ o.data = .fields #[.ref ax,.int i 0]) i l) :
    wpAny (model prog w) A (pyNext (.ref I)) (fun r s' => ∃ val l',r = some val ∧ VR l' v val ∧ LeBut I l l' ∧ LeT l l' ∧ ItIn I (fun i o => o.cls = .type "list_iterator" ∧ o.data = .fields #[.ref ax,.int i 0]) (i + 1) l' ∧ St prog w g0 g L m H l' s0 s') NoE s := by
  obtain ⟨o,hm,hit,hc,hd⟩ := hi
  obtain ⟨own,R⟩ := S.rep
  obtain ⟨vs,n,m1,r1⟩ := R.obj ax _ hs
  obtain ⟨u,hu,hvu⟩ := r1.get hv
  have hlt : i < vs.length := (List.getElem?_eq_some_iff.mp hu).1
  refine (Walks.list hh I ax hne vs.toArray).item i s _ _ (by simpa using hlt) ⟨⟨o,S.nw.get hm,hc,hd⟩,S.nw.isList m1⟩ fun val h' tk hP hst hk => ?_
  obtain ⟨⟨o',ho',hc',hd'⟩,_⟩ := hst
  obtain ⟨k1,k2,k3,k4⟩ := S.turn (tk := tk) hm hit hk ho'
  have : u = val := by
    have hP' : vs[i]? = some val := by simpa using hP
    rw [hu] at hP'; exact Option.some.inj hP'
  subst this
  exact ⟨u,_,rfl,hvu.monoT k2,k1,k2,⟨o',k3,by simp [isIt,hc'],hc',hd'⟩,k4⟩
theorem list_done {ax : Addr} {all : List V} (hh : A.handled = none) (hne : ax ≠ I) (H : AH) (m : Str → Option Value) (l : Led) (s : Shared) (hs : H ax = some (.list all)) (S : St prog w g0 g L m H l s0 s)
    (hi : ItIn I (fun i o => o.cls = .type "list_iterator" ∧ o.data = .fields #[.ref ax,.int i 0]) all.length l) :
    wpAny (model prog w) A (pyNext (.ref I)) (fun r s' => r = none ∧ ∃ l',LeBut I l l' ∧ LeT l l' ∧ St prog w g0 g L m H l' s0 s') NoE s := by
  obtain ⟨o,hm,hit,hc,hd⟩ := hi
  obtain ⟨own,R⟩ := S.rep
  obtain ⟨vs,n,m1,r1⟩ := R.obj ax _ hs
  have e : vs.toArray.size = all.length := by rw [List.size_toArray,r1.length]
  refine (Walks.list hh I ax hne vs.toArray).done s _ _ ⟨⟨o,S.nw.get hm,hc,by rw [e]; exact hd⟩,S.nw.isList m1⟩ fun h' tk hk => ?_
  exact ⟨rfl,S.drop (tk := tk) hm hit hk⟩
theorem rev_item {ax : Addr} {all : List V} (hh : A.handled = none) (hne : ax ≠ I) (i : Nat) (v : V) (H : AH) (m : Str → Option Value) (l : Led) (s : Shared) (hv : all.reverse[i]? = some v) (hs : H ax = some (.list all)) (S : St prog w g0 g L m H l s0 s)
    (hi : ItIn I (fun i o => i ≤ all.length ∧ o.cls = .type "list_reverseiterator" ∧ o.data = .fields #[.ref ax,rawInt ((all.length : Int) - 1 - (i : Int))]) i l) :
    wpAny (model prog w) A (pyNext (.ref I)) (fun r s' => ∃ val l',r = some val ∧ VR l' v val ∧ LeBut I l l' ∧ LeT l l' ∧ ItIn I (fun i o => i ≤ all.length ∧ o.cls = .type "list_reverseiterator" ∧ o.data = .fields #[.ref ax,rawInt ((all.length : Int) - 1 - (i : Int))]) (i + 1) l' ∧ St prog w g0 g L m H l' s0 s') NoE s := by
  obtain ⟨o,hm,hit,hle,hc,hd⟩ := hi
  obtain ⟨own,R⟩ := S.rep
  obtain ⟨vs,n,m1,r1⟩ := R.obj ax _ hs
  have e : vs.toArray.size = all.length := by rw [List.size_toArray,r1.length]
  have hlt : i < all.length := by have := (List.getElem?_eq_some_iff.mp hv).1; simpa using this
  rw [List.getElem?_reverse hlt] at hv
  obtain ⟨u,hu,hvu⟩ := r1.get hv
  refine (Walks.listRev hh I ax hne vs.toArray).item i s _ _ (by rw [e]; exact hlt) ⟨by rw [e]; exact hle,⟨o,S.nw.get hm,hc,by rw [e]; exact hd⟩,S.nw.isList m1⟩ fun val h' tk hP hst hk => ?_
  rw [e] at hP hst
  obtain ⟨hle',⟨o',ho',hc',hd'⟩,_⟩ := hst
  obtain ⟨k1,k2,k3,k4⟩ := S.turn (tk := tk) hm hit hk ho'
  have : u = val := by
    have hP' : vs[all.length - 1 - i]? = some val := by simpa using hP
    rw [hu] at hP'; exact Option.some.inj hP'
  subst this
  exact ⟨u,_,rfl,hvu.monoT k2,k1,k2,⟨o',k3,by simp [isIt,hc'],hle',hc',hd'⟩,k4⟩
theorem rev_done {ax : Addr} {all : List V} (hh : A.handled = none) (hne : ax ≠ I) (H : AH) (m : Str → Option Value) (l : Led) (s : Shared) (hs : H ax = some (.list all)) (S : St prog w g0 g L m H l s0 s)
    (hi : ItIn I (fun i o => i ≤ all.length ∧ o.cls = .type "list_reverseiterator" ∧ o.data = .fields #[.ref ax,rawInt ((all.length : Int) - 1 - (i : Int))]) all.length l) :
    wpAny (model prog w) A (pyNext (.ref I)) (fun r s' => r = none ∧ ∃ l',LeBut I l l' ∧ LeT l l' ∧ St prog w g0 g L m H l' s0 s') NoE s := by
  obtain ⟨o,hm,hit,hle,hc,hd⟩ := hi
  obtain ⟨own,R⟩ := S.rep
  obtain ⟨vs,n,m1,r1⟩ := R.obj ax _ hs
  have e : vs.toArray.size = all.length := by rw [List.size_toArray,r1.length]
  refine (Walks.listRev hh I ax hne vs.toArray).done s _ _ ⟨by rw [e]; exact Nat.le_refl _,⟨o,S.nw.get hm,hc,by rw [e]; exact hd⟩,S.nw.isList m1⟩ fun h' tk hk => ?_
  exact ⟨rfl,S.drop (tk := tk) hm hit hk⟩
def TupJ (I ax : Addr) (all : List V) (vs : List Value) (i : Nat) (l : Led) : Prop := ItIn I (fun i o => o.cls = .type "tuple_iterator" ∧ o.data = .fields #[.ref ax,.int i 0]) i l ∧ (ax,tupObj vs) ∈ l ∧ VRs l all vs
theorem TupJ.mono {ax : Addr} {all : List V} {vs : List Value} {i : Nat} {l l' : Led} (h : TupJ I ax all vs i l) (k : Le l l') : TupJ I ax all vs i l' := ⟨h.1.le k,k.t _ h.2.1 rfl,h.2.2.mono k⟩
theorem tup_item {ax : Addr} {all : List V} {vs : List Value} (hh : A.handled = none) (hne : ax ≠ I) (i : Nat) (v : V) (H : AH) (m : Str → Option Value) (l : Led) (s : Shared) (hv : all[i]? = some v) (S : St prog w g0 g L m H l s0 s)
    (hi : TupJ I ax all vs i l) :
    wpAny (model prog w) A (pyNext (.ref I)) (fun r s' => ∃ val l',r = some val ∧ VR l' v val ∧ LeBut I l l' ∧ LeT l l' ∧ TupJ I ax all vs (i + 1) l' ∧ St prog w g0 g L m H l' s0 s') NoE s := by
  obtain ⟨⟨o,hm,hit,hc,hd⟩,hm1,r1⟩ := hi
  obtain ⟨u,hu,hvu⟩ := r1.get hv
  have hlt : i < vs.length := (List.getElem?_eq_some_iff.mp hu).1
  refine (Walks.tuple hh I ax hne vs.toArray).item i s _ _ (by simpa using hlt) ⟨⟨o,S.nw.get hm,hc,hd⟩,⟨_,S.nw.get hm1,rfl,_,rfl⟩⟩ fun val h' tk hP hst hk => ?_
  obtain ⟨⟨o',ho',hc',hd'⟩,_⟩ := hst
  obtain ⟨k1,k2,k3,k4⟩ := S.turn (tk := tk) hm hit hk ho'
  have : u = val := by
    have hP' : vs[i]? = some val := by simpa using hP
    rw [hu] at hP'; exact Option.some.inj hP'
  subst this
  exact ⟨u,_,rfl,hvu.monoT k2,k1,k2,⟨⟨o',k3,by simp [isIt,hc'],hc',hd'⟩,k2 _ hm1 rfl,r1.monoT k2⟩,k4⟩
theorem tup_done {ax : Addr} {all : List V} {vs : List Value} (hh : A.handled = none) (hne : ax ≠ I) (H : AH) (m : Str → Option Value) (l : Led) (s : Shared) (S : St prog w g0 g L m H l s0 s)
    (hi : TupJ I ax all vs all.length l) :
    wpAny (model prog w) A (pyNext (.ref I)) (fun r s' => r = none ∧ ∃ l',LeBut I l l' ∧ LeT l l' ∧ St prog w g0 g L m H l' s0 s') NoE s := by
  obtain ⟨⟨o,hm,hit,hc,hd⟩,hm1,r1⟩ := hi
  have e : vs.toArray.size = all.length := by rw [List.size_toArray,r1.length]
  refine (Walks.tuple hh I ax hne vs.toArray).done s _ _ ⟨⟨o,S.nw.get hm,hc,by rw [e]; exact hd⟩,⟨_,S.nw.get hm1,rfl,_,rfl⟩⟩ fun h' tk hk => ?_
  exact ⟨rfl,S.drop (tk := tk) hm hit hk⟩
abbrev rngIt (n i : Nat) : Obj := { cls := .type "range_iterator",data := .fields #[rawInt (0 + (i : Int) * 1),rawInt ((n : Int) - (i : Int)),rawInt 1] }
theorem rng_item {n : Nat} (hh : A.handled = none) (i : Nat) (v : V) (H : AH) (m : Str → Option Value) (l : Led) (s : Shared) (hv : ((List.range n).map fun i : Nat => V.int (i : Int))[i]? = some v) (S : St prog w g0 g L m H l s0 s)
    (hi : ItIn I (fun i o => o = rngIt n i) i l) :
    wpAny (model prog w) A (pyNext (.ref I)) (fun r s' => ∃ val l',r = some val ∧ VR l' v val ∧ LeBut I l l' ∧ LeT l l' ∧ ItIn I (fun i o => o = rngIt n i) (i + 1) l' ∧ St prog w g0 g L m H l' s0 s') NoE s := by
  obtain ⟨o,hm,hit,rfl⟩ := hi
  have hlt : i < n := by have := (List.getElem?_eq_some_iff.mp hv).1; simpa using this
  have hv' : v = .int (i : Int) := by simpa [hlt] using hv.symm
  refine (Walks.range hh I 0 1 n).item i s _ _ hlt (S.nw.get hm) fun val h' tk hP hst hk => ?_
  obtain ⟨k1,k2,k3,k4⟩ := S.turn (tk := tk) hm hit hk hst
  obtain ⟨t,rfl⟩ := hP
  subst hv'
  exact ⟨_,_,rfl,by rw [show (0 : Int) + (i : Int) * 1 = (i : Int) by omega]; exact .int _ _,k1,k2,⟨_,k3,rfl,rfl⟩,k4⟩
theorem rng_done {n : Nat} (hh : A.handled = none) (H : AH) (m : Str → Option Value) (l : Led) (s : Shared) (S : St prog w g0 g L m H l s0 s) (hi : ItIn I (fun i o => o = rngIt n i) n l) :
    wpAny (model prog w) A (pyNext (.ref I)) (fun r s' => r = none ∧ ∃ l',LeBut I l l' ∧ LeT l l' ∧ St prog w g0 g L m H l' s0 s') NoE s := by
  obtain ⟨o,hm,hit,rfl⟩ := hi
  exact (Walks.range hh I 0 1 n).done s _ _ (S.nw.get hm) fun h' tk hk => ⟨rfl,S.drop (tk := tk) hm hit hk⟩
theorem str_item {q : Tx} {t : Tok} {ty : String} (W : Walks prog w A I [I] [I] (tx q).cps.size (SignAt (tx q)) (fun i h => h.IsStrIter I ty (tx q) t i)) (hty : (ty != "list" && ty != "dict" && ty != "tuple") = true) (i : Nat) (v : V) (H : AH) (m : Str → Option Value) (l : Led) (s : Shared)
    (hv : (q.map fun c => V.str [c])[i]? = some v) (S : St prog w g0 g L m H l s0 s) (hi : ItIn I (fun i o => o.cls = .type ty ∧ o.data = .fields #[.str (tx q) t,.int i 0]) i l) :
    wpAny (model prog w) A (pyNext (.ref I)) (fun r s' => ∃ val l',r = some val ∧ VR l' v val ∧ LeBut I l l' ∧ LeT l l' ∧ ItIn I (fun i o => o.cls = .type ty ∧ o.data = .fields #[.str (tx q) t,.int i 0]) (i + 1) l' ∧ St prog w g0 g L m H l' s0 s') NoE s := by
  obtain ⟨o,hm,hit,hc,hd⟩ := hi
  have hlt : i < q.length := by have := (List.getElem?_eq_some_iff.mp hv).1; simpa using this
  refine W.item i s _ _ (by simpa [tx] using hlt) ⟨o,S.nw.get hm,hc,hd⟩ fun val h' tk hP hst hk => ?_
  obtain ⟨o',ho',hc',hd'⟩ := hst
  obtain ⟨k1,k2,k3,k4⟩ := S.turn (tk := tk) hm hit hk ho'
  obtain ⟨c,u,hc2,rfl⟩ := hP
  have hv' : v = .str [c] := by
    have h2 : q[i]? = some c := by simpa [tx] using hc2
    simpa [h2] using hv.symm
  subst hv'
  exact ⟨_,_,rfl,.str [c] u,k1,k2,⟨o',k3,by simp only [isIt,hc']; exact hty,hc',hd'⟩,k4⟩
theorem str_done {q : Tx} {t : Tok} {ty : String} (W : Walks prog w A I [I] [I] (tx q).cps.size (SignAt (tx q)) (fun i h => h.IsStrIter I ty (tx q) t i)) (H : AH) (m : Str → Option Value) (l : Led) (s : Shared)
    (S : St prog w g0 g L m H l s0 s) (hi : ItIn I (fun i o => o.cls = .type ty ∧ o.data = .fields #[.str (tx q) t,.int i 0]) (q.map fun c => V.str [c]).length l) :
    wpAny (model prog w) A (pyNext (.ref I)) (fun r s' => r = none ∧ ∃ l',LeBut I l l' ∧ LeT l l' ∧ St prog w g0 g L m H l' s0 s') NoE s := by
  obtain ⟨o,hm,hit,hc,hd⟩ := hi
  have e : (tx q).cps.size = (q.map fun c => V.str [c]).length := by simp [tx]
  exact W.done s _ _ ⟨o,S.nw.get hm,hc,by rw [e]; exact hd⟩ fun h' tk hk => ⟨rfl,S.drop (tk := tk) hm hit hk⟩
end
end
section
def notComp : Expr → Bool
  | .ListComp .. | .SetComp .. | .DictComp .. | .Tuple .. => false
  | _ => true
def okNames (sc : Scope) : List N → List Expr → Bool
  | [],xs => xs.isEmpty
  | n :: ns,xs => (match xs with | .Name y _ :: xs => y == n.str && isLoc sc y && okNames sc ns xs | _ => false)
mutual
def okS (sc : Scope) (r : Nat) : S → Stmt → Bool
  | .asg x e,st => (match st with | .Assign [.Name n _] v _ => n == x.str && isLoc sc n && notComp v && okE sc r e v | _ => false)
  | .unpk xs e,st => (match st with | .Assign [.Tuple elts _ _] v _ => okNames sc xs elts && notComp v && okE sc r e v | _ => false)
  | .sattr o n e,st => (match st with | .Assign [.Attribute ov a _] v _ => a == n.str && notComp v && okE sc r e v && okE sc r o ov | _ => false)
  | .sidx o i e,st => (match st with | .Assign [.Subscript ov iv _] v _ => (notComp v || (match v with | .Tuple .. => true | _ => false)) && okE sc r e v && okE sc r o ov && okE sc r i iv | _ => false)
  | .aug x e,st => (match st with | .AugAssign (.Name n _) .Add v _ => n == x.str && isLoc sc n && okE sc r e v | _ => false)
  | .augattr o n e,st => (match st with | .AugAssign (.Attribute ov a _) .Add v _ => a == n.str && okE sc r o ov && okE sc r e v | _ => false)
  | .ifs t a b,st => (match st with | .If x xs ys _ => okE sc r t x && okSs sc r a xs && okSs sc r b ys | _ => false)
  | .whl t body,st => (match st with | .While x xs [] _ => okE sc r t x && okSs sc r body xs | _ => false)
  | .forS x e body,st => (match st with | .For (.Name n _) it xs [] _ => n == x.str && isLoc sc n && okE sc r e it && okSs sc r body xs | _ => false)
  | .forT ns e body,st => (match st with | .For (.Tuple elts _ _) it xs [] _ => okNames sc ns elts && okE sc r e it && okSs sc r body xs | _ => false)
  | .forR x e body,st => (match st with | .For (.Name n _) (.Call (.Name f _) [a] [] _) xs [] _ => n == x.str && isLoc sc n && f == ("range" : Str) && isGl sc f && okE sc r e a && okSs sc r body xs | _ => false)
  | .forV x e body,st => (match st with | .For (.Name n _) (.Call (.Name f _) [a] [] _) xs [] _ => n == x.str && isLoc sc n && f == ("reversed" : Str) && isGl sc f && okE sc r e a && okSs sc r body xs | _ => false)
  | .ret e,st => (match st with | .Return (some v) _ => okE sc r e v | _ => false)
  | .retn,st => (match st with | .Return none _ => true | _ => false)
  | .cont,st => (match st with | .Continue _ => true | _ => false)
  | .expr e,st => (match st with | .Expr v _ => notComp v && okE sc r e v | _ => false)
def okSs (sc : Scope) (r : Nat) : List S → List Stmt → Bool
  | [],xs => xs.isEmpty
  | s :: ss,xs => (match xs with | x :: xs => okS sc r s x && okSs sc r ss xs | [] => false)
end
section
variable {prog : Program} {w : World} {A : Around} {s0 s : Shared} {K : Frag} {g0 g : Heap} {L a I : Addr} {m : Str → Option Value} {H : AH} {l : Led} {ρ : Rho} {sc : Scope} {r : Nat} {cn : Str} {ccd : Value}
  {p : Program} {loose : List Str} {mean : ExcName → Option Value} {mg mb : Str → Option Value}
theorem store_ok (hF : Frm A g L (envOf cn sc L a ccd)) (S : St prog w g0 g L m H l s0 s) (hL : LR l ρ m) {x : N} {v : V} {val : Value} (hx : isLoc sc x.str = true) (hv : VR l v val) :
    wpAny (model prog w) A (storeName (envOf cn sc L a ccd) x.str val) (fun _ s' => ∃ m',St prog w g0 g L m' H l s0 s' ∧ LR l (put ρ x v) m') NoE s := by
  refine stN S.fr S.nw (fun h' F Nw => ⟨_,S.to (t := s.toks + 1) F Nw S.rep,fun y z hz => ?_⟩) hF.kind (kind_loc hx)
  rw [put_apply] at hz
  by_cases hy : y = x
  · subst hy
    rw [if_pos rfl] at hz; cases hz
    exact ⟨val,by simp,hv⟩
  · rw [if_neg hy] at hz
    obtain ⟨u,h1,h2⟩ := hL y z hz
    exact ⟨u,by simp [h1,show ¬ y.str = x.str from fun q => hy (N.inj q)],h2⟩
theorem names_ok (hF : Frm A g L (envOf cn sc L a ccd)) : ∀ (ns : List N) (xs : List Expr) (vs : List V) (vals : List Value) (ρ : Rho) (m : Str → Option Value) (s : Shared),okNames sc ns xs = true → vs.length = ns.length → St prog w g0 g L m H l s0 s → LR l ρ m → VRs l vs vals →
    wpAny (model prog w) A (assignInOrder ((assignEach xs (envOf cn sc L a ccd)).map (·.2)) vals) (fun _ s' => ∃ m',St prog w g0 g L m' H l s0 s' ∧ LR l (putAll ρ ns vs) m') NoE s
  | [],xs,vs,vals,ρ,m,s,hk,hn,S,hL,hv => by
    simp only [okNames,List.isEmpty_iff] at hk; subst hk
    have : putAll ρ [] vs = ρ := by cases vs <;> rfl
    rw [this]
    exact assignInOrder_nil ⟨m,S,hL⟩
  | n :: ns,xs,vs,vals,ρ,m,s,hk,hn,S,hL,hv => by
    simp only [okNames] at hk
    split at hk
    case h_2 => exact absurd hk Bool.false_ne_true
    simp only [Bool.and_eq_true,beq_iff_eq] at hk
    obtain ⟨⟨h1,h2⟩,h3⟩ := hk
    subst h1
    cases hv with
    | nil => simp at hn
    | cons a1 r1 =>
      refine assignInOrder_cons (wpAny_assign_Name (wpAny_mono (store_ok hF S hL h2 a1) (fun _ s' q => ?_) fun _ _ e => e))
      obtain ⟨m',S',hL'⟩ := q
      exact names_ok hF ns _ _ _ _ m' s' h3 (by simpa using hn) S' hL' r1
theorem names_length (env : Env) : ∀ {ns : List N} {xs : List Expr},okNames sc ns xs = true → (assignEach xs env).length = ns.length ∧ (assignEach xs env).findIdx? (·.1) = none
  | [],xs,hk => by
    simp only [okNames,List.isEmpty_iff] at hk; subst hk
    exact ⟨rfl,rfl⟩
  | n :: ns,xs,hk => by
    simp only [okNames] at hk
    split at hk
    case h_2 => exact absurd hk Bool.false_ne_true
    simp only [Bool.and_eq_true] at hk
    obtain ⟨h1,h2⟩ := names_length env hk.2
    refine ⟨?_,?_⟩
    · show (_ :: assignEach _ env).length = _; simp [h1]
    · show ((false,_) :: assignEach _ env).findIdx? (·.1) = none
      rw [List.findIdx?_cons]; simp [h2]
theorem unpack_ok (hA : Amb K p loose mean mg mb A g (4 * r + 8) (20 * r + 100)) (hF : Frm A g L (envOf cn sc L a ccd)) (S : St prog w g0 g L m H l s0 s) (hL : LR l ρ m) {ns : List N} {xs : List Expr} {k : Nat} {q : Pos} {v : V} {val : Value} {vs : List V} (hk : okNames sc ns xs = true) (hv : VR l v val)
    (hs : seqOf v H = some vs) (hn : vs.length = ns.length) :
    wpAny (model prog w) A (assign (.Tuple xs k q) (envOf cn sc L a ccd) val) (fun _ s' => ∃ m',St prog w g0 g L m' H l s0 s' ∧ LR l (putAll ρ ns vs) m') NoE s := by
  obtain ⟨h1,h2⟩ := names_length (envOf cn sc L a ccd) hk
  rw [arm_assign_Tuple]
  refine wpAny_bind (wpAny_standAt ?_)
  unfold unpack
  rw [h1,h2]
  refine wpAny_bind (wpAny_holding ?_)
  have fin : ∀ {vals : List Value} {h' : Heap},VRs l vs vals → Fr g L h' m → News g L h' l → wpAny (model prog w) A (assignInOrder ((assignEach xs (envOf cn sc L a ccd)).map (·.2)) vals) (fun _ s' => ∃ m',St prog w g0 g L m' H l s0 s' ∧ LR l (putAll ρ ns vs) m') NoE { s with heap := h' } :=
    fun hr F N => names_ok hF ns xs vs _ ρ m _ hk hn (S.to (t := s.toks) F N S.rep) hL hr
  cases hv with
  | none => cases hs
  | bool _ => cases hs
  | int _ _ => cases hs
  | str _ _ => cases hs
  | tup m1 r1 =>
    simp only [seqOf,Option.some.injEq] at hs; subst hs
    exact unpackItemsN_ S.fr S.nw ⟨_,S.nw.get m1,rfl,_,rfl⟩ hA.hnd (by rw [List.size_toArray,r1.length]; exact hn.symm) fun h' F N => fin r1 F N
  | ref b =>
    simp only [seqOf] at hs
    split at hs
    · rename_i ys hB
      cases hs
      obtain ⟨own,R⟩ := S.rep
      obtain ⟨vals,n,m1,r1⟩ := R.obj b _ hB
      exact kun_items S.fr S.nw (S.nw.isList m1) hA.hnd (by rw [List.size_toArray,r1.length]; exact hn.symm) fun h' F N => fin r1 F N
    · cases hs
theorem rev_boot : bootBuiltins "reversed" = some (.type "reversed") := by decide +kernel
theorem rng_boot : bootBuiltins "range" = some (.type "range") := by decide +kernel
theorem rev_noname : ("reversed" : Str) ≠ "__name__" := by decide +kernel
theorem rng_noname : ("range" : Str) ≠ "__name__" := by decide +kernel
theorem rng_small {n : Int} (h1 : -1000 ≤ n) (h2 : n ≤ 1000000) : Builtin.Range.small 0 n 1 = true := PySem.small_one (by omega) (by omega) (by omega) (by omega)
theorem own_name {x : Str} {q : Pos} {it val : Value} : wpAny (model prog w) A (letOwnedTupleGo (.Name x q) it val) (fun _ s' => s' = s) NoE s := wpAny_pure (a := ()) rfl
theorem swaps_ok {v : Expr} (h : notComp v = true) (t : Option Expr) (n : Nat) (env : Env) : swapsWith v t n env = pure false := by
  cases v <;> first | rfl | cases h
theorem swapsSole_ok {v : Expr} (h : notComp v = true) (t : Expr) (n : Nat) (env : Env) : swapsWithSole [t] v n env = pure false := swaps_ok h (some t) n env
theorem swapped_ok {v : Expr} (h : notComp v = true) (ts : List Expr) (k : Nat) (q : Pos) (env : Env) : swappedStores [.Tuple ts k q] v env = pure none := by
  cases v <;> first | rfl | cases h
theorem sw_any {v : Expr} (h : (notComp v || (match v with | .Tuple .. => true | _ => false)) = true) (t : Option Expr) (n : Nat) (env : Env) : swapsWith v t n env = pure false := by
  cases v <;> first | rfl | cases h
set_option maxHeartbeats 4000000 in
mutual
theorem sS (hK : KOk K) (hA : Amb K p loose mean mg mb A g (4 * r + 8) (20 * r + 100)) (hF : Frm A g L (envOf cn sc L a ccd)) : ∀ (st : S) (ex : Stmt),okS sc r st ex = true → ∀ (ρ : Rho) (m : Str → Option Value) (H : AH) (l : Led) (s : Shared) (Q : SPost),
    wpS (spR prog w K p loose mean mg mb) st ρ H Q → St prog w g0 g L m H l s0 s → LR l ρ m → wpAny (model prog w) A (exec ex (envOf cn sc L a ccd)) (SP prog w g0 g L s0 l Q) NoE s
  | .asg x e => by
    intro ex hk ρ m H l s Q h S hL
    simp only [okS] at hk
    split at hk
    case h_2 => exact absurd hk Bool.false_ne_true
    simp only [Bool.and_eq_true,beq_iff_eq] at hk
    obtain ⟨⟨⟨h1,h2⟩,h3⟩,h4⟩ := hk
    subst h1
    simp only [wpS] at h
    refine wpAny_Assign_Name (wpAny_mono (sE hK hA hF e _ h4 h S hL) (fun v s' q => ?_) fun _ _ e => e) (swaps_ok h3 _ _ _)
    obtain ⟨x,H',l',q1,q2,q3,q4⟩ := q
    refine wpAny_mono (store_ok hF q4 (hL.mono q3) h2 q2) (fun _ s' q => ?_) fun _ _ e => e
    obtain ⟨m',k1,k2⟩ := q
    exact ⟨.next,_,_,m',l',q1,.next,q3,k1,k2⟩
  | .unpk xs e => by
    intro ex hk ρ m H l s Q h S hL
    simp only [okS] at hk
    split at hk
    case h_2 => exact absurd hk Bool.false_ne_true
    simp only [Bool.and_eq_true] at hk
    obtain ⟨⟨h1,h2⟩,h3⟩ := hk
    simp only [wpS] at h
    refine PyProof.Rows.Assign_Tuple (wpAny_mono (sE hK hA hF e _ h3 h S hL) (fun v s' q => ?_) fun _ _ e => e) (swapsSole_ok h2 _ _ _) (swapped_ok h2 _ _ _ _)
    obtain ⟨x,H',l',⟨ys,q1,q5,q6⟩,q2,q3,q4⟩ := q
    refine wpAny_mono (unpack_ok hA hF q4 (hL.mono q3) h1 q2 q1 q5) (fun _ s' q => ?_) fun _ _ e => e
    obtain ⟨m',k1,k2⟩ := q
    exact ⟨.next,_,_,m',l',q6,.next,q3,k1,k2⟩
  | .sattr o n e => by
    intro ex hk ρ m H l s Q h S hL
    simp only [okS] at hk
    split at hk
    case h_2 => exact absurd hk Bool.false_ne_true
    simp only [Bool.and_eq_true,beq_iff_eq] at hk
    obtain ⟨⟨⟨h1,h2⟩,h3⟩,h4⟩ := hk
    subst h1
    simp only [wpS] at h
    refine plainObj_wpAny_Assign_Attribute (wpAny_mono (sE hK hA hF e _ h3 h S hL) (fun v s' q => ?_) fun _ _ e => e) (swaps_ok h2 _ _ _)
    obtain ⟨x,H',l',q1,q2,q3,q4⟩ := q
    refine wpAny_mono (sE hK hA hF o _ h4 q1 q4 (hL.mono q3)) (fun v s' q => ?_) fun _ _ e => e
    obtain ⟨y,H2,l2,r1,r2,r3,r4⟩ := q
    refine wpAny_mono (setAttr_ok hK.cls hK.attr hA.kin r4 r2 (q2.mono r3) r1) (fun _ s' q => ?_) fun _ _ e => e
    obtain ⟨H3,l3,t1,t2,t3⟩ := q
    exact ⟨.next,ρ,H3,m,l3,t1,.next,(q3.trans r3).trans t2,t3,hL.mono ((q3.trans r3).trans t2)⟩
  | .sidx o i e => by
    intro ex hk ρ m H l s Q h S hL
    simp only [okS] at hk
    split at hk
    case h_2 => exact absurd hk Bool.false_ne_true
    have hk' := hk
    rw [Bool.and_eq_true,Bool.and_eq_true,Bool.and_eq_true] at hk
    obtain ⟨⟨⟨h2,h3⟩,h4⟩,h5⟩ := hk
    simp only [wpS] at h
    refine wpAny_Assign_Subscript (wpAny_mono (sE hK hA hF e _ h3 h S hL) (fun v s' q => ?_) fun _ _ e => e) (sw_any h2 _ _ _)
    obtain ⟨x,H',l',q1,q2,q3,q4⟩ := q
    refine wpAny_mono (sE hK hA hF o _ h4 q1 q4 (hL.mono q3)) (fun v s' q => ?_) fun _ _ e => e
    obtain ⟨y,H2,l2,r1,r2,r3,r4⟩ := q
    refine wpAny_mono (sE hK hA hF i _ h5 r1 r4 (hL.mono (q3.trans r3))) (fun v s' q => ?_) fun _ _ e => e
    obtain ⟨z,H3,l3,t1,t2,t3,t4⟩ := q
    refine wpAny_mono (setItem_ok (by have := hA.units; omega) t4 (r2.mono t3) t2 (q2.mono (r3.trans t3)) t1) (fun _ s' q => ?_) fun _ _ e => e
    obtain ⟨H4,l4,u1,u2,u3⟩ := q
    have hle := ((q3.trans r3).trans t3).trans u2
    exact ⟨.next,ρ,H4,m,l4,u1,.next,hle,u3,hL.mono hle⟩
  | .aug x e => by
    intro ex hk ρ m H l s Q h S hL
    simp only [okS] at hk
    split at hk
    case h_2 => exact absurd hk Bool.false_ne_true
    simp only [Bool.and_eq_true,beq_iff_eq] at hk
    obtain ⟨⟨h1,h2⟩,h3⟩ := hk
    subst h1
    simp only [wpS] at h
    obtain ⟨v,hv,h⟩ := h
    obtain ⟨u,hu,hvu⟩ := hL x v hv
    refine wpAny_AugAssign_Name (ldn S.fr hu (wpAny_mono (sE hK hA hF e _ h3 h S hL) (fun y s' q => ?_) fun _ _ e => e) hF.kind (kind_loc h2))
    obtain ⟨y,H',l',q1,q2,q3,q4⟩ := q
    refine wpAny_mono (aug_ok q4 (hvu.mono q3) q2 q1) (fun z s' q => ?_) fun _ _ e => e
    obtain ⟨z,H2,l2,r1,r2,r3,r4⟩ := q
    refine wpAny_mono (store_ok hF r4 (hL.mono (q3.trans r3)) h2 r2) (fun _ s' q => ?_) fun _ _ e => e
    obtain ⟨m',k1,k2⟩ := q
    exact ⟨.next,_,_,m',l2,r1,.next,q3.trans r3,k1,k2⟩
  | .augattr o n e => by
    intro ex hk ρ m H l s Q h S hL
    simp only [okS] at hk
    split at hk
    case h_2 => exact absurd hk Bool.false_ne_true
    simp only [Bool.and_eq_true,beq_iff_eq] at hk
    obtain ⟨⟨h1,h2⟩,h3⟩ := hk
    subst h1
    simp only [wpS] at h
    refine wpAny_AugAssign_AttributeAny (wpAny_mono (sE hK hA hF o _ h2 h S hL) (fun y s' q => ?_) fun _ _ e => e)
    obtain ⟨y,H',l',q1,q2,q3,q4⟩ := q
    refine wpAny_mono (rdAttr_ok hK.cls hK.attr hA.kin q4 q2 q1) (fun z s' q => ?_) fun _ _ e => e
    obtain ⟨z,H2,l2,r1,r2,r3,r4⟩ := q
    refine wpAny_mono (sE hK hA hF e _ h3 r1 r4 (hL.mono (q3.trans r3))) (fun z s' q => ?_) fun _ _ e => e
    obtain ⟨u,H3,l3,t1,t2,t3,t4⟩ := q
    refine wpAny_mono (aug_ok t4 (r2.mono t3) t2 t1) (fun z s' q => ?_) fun _ _ e => e
    obtain ⟨x,H4,l4,u1,u2,u3,u4⟩ := q
    refine wpAny_mono (setAttr_ok hK.cls hK.attr hA.kin u4 (q2.mono ((r3.trans t3).trans u3)) u2 u1) (fun _ s' q => ?_) fun _ _ e => e
    obtain ⟨H5,l5,w1,w2,w3⟩ := q
    have hle := (((q3.trans r3).trans t3).trans u3).trans w2
    exact ⟨.next,ρ,H5,m,l5,w1,.next,hle,w3,hL.mono hle⟩
  | .ifs t x y => by
    intro ex hk ρ m H l s Q h S hL
    simp only [okS] at hk
    split at hk
    case h_2 => exact absurd hk Bool.false_ne_true
    simp only [Bool.and_eq_true] at hk
    obtain ⟨⟨h1,h2⟩,h3⟩ := hk
    simp only [wpS] at h
    refine wpAny_If (wpAny_mono (sT hK hA hF t _ h1 h S hL) (fun b s' q => ?_) fun _ _ e => e)
    obtain ⟨H',l',q1,q2,q3,q4⟩ := q
    cases b with
    | true => exact wpAny_mono (sSs hK hA hF x _ h2 ρ m H' l' s' Q (q1 rfl) q4 (hL.mono q3)) (fun _ _ q => q.le q3) fun _ _ e => e
    | false => exact wpAny_mono (sSs hK hA hF y _ h3 ρ m H' l' s' Q (q2 rfl) q4 (hL.mono q3)) (fun _ _ q => q.le q3) fun _ _ e => e
  | .whl t body => by
    intro ex hk ρ m H l s Q h S hL
    simp only [okS] at hk
    split at hk
    case h_2 => exact absurd hk Bool.false_ne_true
    rename_i tx bx pp
    simp only [Bool.and_eq_true] at hk
    simp only [wpS] at h
    refine wpAny_While (codeAny_mono (R := fun r s' => match r with | .ok f => SP prog w g0 g L s0 l Q f s' | .error _ => False) ?_ fun r s' q => by cases r <;> first | exact q | exact q.elim)
    have key := h (fun ρ H => ∀ (m : Str → Option Value) (l' : Led) (s : Shared),Le l l' → St prog w g0 g L m H l' s0 s → LR l' ρ m → codeAny (model prog w) A (.whileLoop tx bx [] (envOf cn sc L a ccd)) (fun r s' => match r with | .ok f => SP prog w g0 g L s0 l Q f s' | .error _ => False) s) ?_
    · exact key m l s (Le.refl l) S hL
    · intro ρ H ht m l' s hle S hL
      refine while_unf (wpAny_mono (sT hK hA hF t _ hk.1 ht S hL) (fun b s' q => ?_) fun _ _ e => e)
      obtain ⟨H',l2,q1,q2,q3,q4⟩ := q
      cases b with
      | false => exact ⟨.next,ρ,H',m,l2,q2 rfl,.next,hle.trans q3,q4,hL.mono q3⟩
      | true =>
        refine wpAny_mono (sSs hK hA hF body _ hk.2 ρ m H' l2 s' _ (q1 rfl) q4 (hL.mono q3)) (fun f s3 q => ?_) fun _ _ e => e
        obtain ⟨fl',ρ',H3,m',l3,t1,t2,t3,t4,t5⟩ := q
        cases t2 with
        | next => exact t1 m' l3 s3 ((hle.trans q3).trans t3) t4 t5
        | cont => exact t1 m' l3 s3 ((hle.trans q3).trans t3) t4 t5
        | ret hv => exact ⟨_,ρ',H3,m',l3,t1,.ret hv,(hle.trans q3).trans t3,t4,t5⟩
  | .forS x e body => by
    intro ex hk ρ m H l s Q h S hL
    simp only [okS] at hk
    split at hk
    case h_2 => exact absurd hk Bool.false_ne_true
    rename_i nn np it bx fp
    simp only [Bool.and_eq_true,beq_iff_eq] at hk
    obtain ⟨⟨⟨h1,h2⟩,h3⟩,h4⟩ := hk
    subst h1
    simp only [wpS] at h
    refine wpAny_For (wpAny_mono (sE hK hA hF e _ h3 h S hL) (fun v s' q => ?_) fun _ _ e => e) (folded_ok h3 _)
    obtain ⟨y,H',l',⟨vs,q1,q5⟩,q2,q3,q4⟩ := q
    cases q2 with
    | none => cases q1
    | bool _ => cases q1
    | int _ _ => cases q1
    | ref b =>
      simp only [itemsOfV] at q1
      split at q1
      case h_2 => cases q1
      rename_i xs hb
      have q1' := Option.some.inj q1
      subst q1'
      obtain ⟨own,R⟩ := q4.rep
      obtain ⟨us,n,m1,r1⟩ := R.obj b _ hb
      have hne : b ≠ s'.heap.objs.size := Nat.ne_of_lt (Heap.lt_size (q4.nw _ m1).1)
      refine wpAny_pyIter_list (q4.nw.isList m1) (codeAny_mono (R := fun r s' => match r with | .ok f => SP prog w g0 g L s0 l' Q f s' | .error _ => False) ?_ fun r s' q => by cases r <;> first | exact q.le q3 | exact q.elim)
      refine loop_ok (J := ItIn s'.heap.objs.size fun i o => o.cls = .type "list_iterator" ∧ o.data = .fields #[.ref b,.int i 0]) (src := fun H => H b = some (.list xs)) (set := fun v ρ => some (put ρ x v)) (B := fun ρ H Q => wpSs (spR prog w K p loose mean mg mb) body ρ H Q) (all := xs)
        ⟨fun _ _ _ h k => h.le k,fun i v H m l s hv hs S hi => list_item hA.hnd hne i v H m l s hv hs S hi,fun H m l s hs S hi => list_done hA.hnd hne H m l s hs S hi,fun _ _ _ _ _ _ _ _ _ _ => own_name,fun v ρ ρ1 val H m l s hs S hL hv => by
        cases hs
        refine wpAny_assign_Name (wpAny_mono (store_ok hF S hL h2 hv) (fun _ s' q => ?_) fun _ _ e => e)
        obtain ⟨m',k1,k2⟩ := q
        exact ⟨m',l,Le.refl l,k1,k2⟩,fun ρ H m l s Q hB S hL => sSs hK hA hF body _ h4 ρ m H l s Q hB S hL⟩
        q4.fresh xs 0 rfl (by simp) ρ H' m _ _ (fun p hp _ _ => .tail _ hp) ?_ (q4.newIt rfl) ((hL.mono q3).mono (Le.cons _ _)) ⟨_,.head _,rfl,rfl,rfl⟩
      have e : (fun H => itemsOfV (.ref b) H = some xs) = fun H => H b = some (.list xs) := by
        funext H
        simp only [itemsOfV]
        apply propext
        constructor
        · intro h; split at h
          · rename_i h'; cases h; exact h'
          · cases h
        · intro h; rw [h]
      rw [e] at q5
      exact q5
    | tup m1 r1 =>
      simp only [itemsOfV,Option.some.injEq] at q1
      subst q1
      rename_i xs b us
      have hne : b ≠ s'.heap.objs.size := Nat.ne_of_lt (Heap.lt_size (q4.nw _ m1).1)
      refine wpAny_pyIter_tuple ⟨_,q4.nw.get m1,rfl,_,rfl⟩ (codeAny_mono (R := fun r s' => match r with | .ok f => SP prog w g0 g L s0 l' Q f s' | .error _ => False) ?_ fun r s' q => by cases r <;> first | exact q.le q3 | exact q.elim)
      refine loop_ok (J := TupJ s'.heap.objs.size b xs us) (src := fun H => True) (set := fun v ρ => some (put ρ x v)) (B := fun ρ H Q => wpSs (spR prog w K p loose mean mg mb) body ρ H Q) (all := xs)
        ⟨fun _ _ _ h k => h.mono k,fun i v H m l s hv hs S hi => tup_item hA.hnd hne i v H m l s hv S hi,fun H m l s hs S hi => tup_done hA.hnd hne H m l s S hi,fun _ _ _ _ _ _ _ _ _ _ => own_name,fun v ρ ρ1 val H m l s hs S hL hv => by
        cases hs
        refine wpAny_assign_Name (wpAny_mono (store_ok hF S hL h2 hv) (fun _ s' q => ?_) fun _ _ e => e)
        obtain ⟨m',k1,k2⟩ := q
        exact ⟨m',l,Le.refl l,k1,k2⟩,fun ρ H m l s Q hB S hL => sSs hK hA hF body _ h4 ρ m H l s Q hB S hL⟩
        q4.fresh xs 0 rfl (by simp) ρ H' m _ _ (fun p hp _ _ => .tail _ hp) ?_ (q4.newIt rfl) ((hL.mono q3).mono (Le.cons _ _)) ⟨⟨_,.head _,rfl,rfl,rfl⟩,.tail _ m1,r1.mono (Le.cons _ _)⟩
      have e : (fun H => itemsOfV (.tup xs) H = some xs) = fun H => True := by
        funext H; simp [itemsOfV]
      rw [e] at q5
      exact q5
    | str q t =>
      simp only [itemsOfV,Option.some.injEq] at q1
      subst q1
      have go : ∀ {ty : String} {o : Obj},(∀ I,Walks prog w A I [I] [I] (tx q).cps.size (SignAt (tx q)) (fun i h => h.IsStrIter I ty (tx q) t i)) → (ty != "list" && ty != "dict" && ty != "tuple") = true → o.cls = .type ty → o.data = .fields #[.str (tx q) t,.int 0 0] → o.isFreed = false →
          codeAny (model prog w) A (.forLoop (.Name x.str np) (.ref s'.heap.objs.size) bx [] (envOf cn sc L a ccd)) (fun r s' => match r with | .ok f => SP prog w g0 g L s0 l' Q f s' | .error _ => False) { s' with heap := s'.heap.push o } := by
        intro ty o W hty hc hd hf
        refine loop_ok (J := ItIn s'.heap.objs.size fun i o => o.cls = .type ty ∧ o.data = .fields #[.str (tx q) t,.int i 0]) (src := fun H => True) (set := fun v ρ => some (put ρ x v)) (B := fun ρ H Q => wpSs (spR prog w K p loose mean mg mb) body ρ H Q) (all := q.map fun c => V.str [c])
          ⟨fun _ _ _ h k => h.le k,fun i v H m l s hv hs S hi => str_item (W _) hty i v H m l s hv S hi,fun H m l s hs S hi => str_done (W _) H m l s S hi,fun _ _ _ _ _ _ _ _ _ _ => own_name,fun v ρ ρ1 val H m l s hs S hL hv => by
          cases hs
          refine wpAny_assign_Name (wpAny_mono (store_ok hF S hL h2 hv) (fun _ s' q => ?_) fun _ _ e => e)
          obtain ⟨m',k1,k2⟩ := q
          exact ⟨m',l,Le.refl l,k1,k2⟩,fun ρ H m l s Q hB S hL => sSs hK hA hF body _ h4 ρ m H l s Q hB S hL⟩
          q4.fresh _ 0 rfl (by simp) ρ H' m _ _ (fun p hp _ _ => .tail _ hp) ?_ (q4.newIt hf) ((hL.mono q3).mono (Le.cons _ _)) ⟨_,.head _,by simp only [isIt,hc]; exact hty,hc,hd⟩
        have e : (fun H => itemsOfV (.str q) H = some (q.map fun c => V.str [c])) = fun H => True := by
          funext H; simp [itemsOfV]
        rw [e] at q5
        exact q5
      cases ha : (tx q).cps.all (· < 128) with
      | true => exact wpAny_pyIter_ascii ha (codeAny_mono (go (fun I => Walks.strAscii hA.hnd I (tx q) t) (by decide) rfl rfl rfl) fun r s' q => by cases r <;> first | exact q.le q3 | exact q.elim)
      | false => exact wpAny_pyIter_wide ha (codeAny_mono (go (fun I => Walks.strWide hA.hnd I (tx q) t) (by decide) rfl rfl rfl) fun r s' q => by cases r <;> first | exact q.le q3 | exact q.elim)
  | .forT xs e body => by
    intro ex hk ρ m H l s Q h S hL
    simp only [okS] at hk
    split at hk
    case h_2 => exact absurd hk Bool.false_ne_true
    simp only [Bool.and_eq_true] at hk
    obtain ⟨⟨h1,h3⟩,h4⟩ := hk
    simp only [wpS] at h
    refine wpAny_For (wpAny_mono (sE hK hA hF e _ h3 h S hL) (fun v s' q => ?_) fun _ _ e => e) (folded_ok h3 _)
    obtain ⟨y,H',l',⟨b,vs,rfl,hb,q5⟩,q2,q3,q4⟩ := q
    cases q2
    obtain ⟨own,R⟩ := q4.rep
    obtain ⟨us,n,m1,r1⟩ := R.obj b _ hb
    have hne : b ≠ s'.heap.objs.size := Nat.ne_of_lt (Heap.lt_size (q4.nw _ m1).1)
    refine wpAny_pyIter_list (q4.nw.isList m1) (codeAny_mono (R := fun r s' => match r with | .ok f => SP prog w g0 g L s0 l' Q f s' | .error _ => False) ?_ fun r s' q => by cases r <;> first | exact q.le q3 | exact q.elim)
    refine loop_ok (J := ItIn s'.heap.objs.size fun i o => o.cls = .type "list_iterator" ∧ o.data = .fields #[.ref b,.int i 0]) (src := fun H => H b = some (.list vs)) (set := setT xs) (B := fun ρ H Q => wpSs (spR prog w K p loose mean mg mb) body ρ H Q) (all := vs)
      ⟨fun _ _ _ h k => h.le k,fun i v H m l s hv hs S hi => list_item hA.hnd hne i v H m l s hv hs S hi,fun H m l s hs S hi => list_done hA.hnd hne H m l s hs S hi,fun i v val H m l s hv S hi => ?_,fun v ρ ρ1 val H m l s hs S hL hv => ?_,fun ρ H m l s Q hB S hL => sSs hK hA hF body _ h4 ρ m H l s Q hB S hL⟩
      q4.fresh vs 0 rfl (by simp) ρ H' m _ _ (fun p hp _ _ => .tail _ hp) q5 (q4.newIt rfl) ((hL.mono q3).mono (Le.cons _ _)) ⟨_,.head _,rfl,rfl,rfl⟩
    · obtain ⟨o,o1,o2,o3,o4⟩ := hi
      cases hv with
      | tup t1 t2 => exact wpAny_letOwnedTupleGo_listiter ⟨o,S.nw.get o1,o3,o4⟩ rfl
      | ref c => exact wpAny_letOwnedTupleGo_listiter ⟨o,S.nw.get o1,o3,o4⟩ rfl
      | none => exact wpAny_pure (a := ()) rfl
      | bool _ => exact wpAny_pure (a := ()) rfl
      | int _ _ => exact wpAny_pure (a := ()) rfl
      | str _ _ => exact wpAny_pure (a := ()) rfl
    · cases v with
      | tup ys =>
        simp only [setT] at hs
        split at hs
        · rename_i hlen
          cases hs
          refine wpAny_mono (unpack_ok hA hF S hL h1 hv (vs := ys) rfl hlen) (fun _ s' q => ?_) fun _ _ e => e
          obtain ⟨m',k1,k2⟩ := q
          exact ⟨m',l,Le.refl l,k1,k2⟩
        · cases hs
      | _ => cases hs
  | .forR x e body => by
    intro ex hk ρ m H l s Q h S hL
    simp only [okS] at hk
    split at hk
    case h_2 => exact absurd hk Bool.false_ne_true
    rename_i nn np ff fp ax cp bx pp
    simp only [Bool.and_eq_true,beq_iff_eq] at hk
    obtain ⟨⟨⟨⟨⟨h1,h2⟩,h5⟩,h6⟩,h3⟩,h4⟩ := hk
    subst h1 h5
    simp only [wpS] at h
    have h7 : okEs sc r [e] [ax] = true := by simp only [okEs,Bool.and_eq_true]; exact ⟨h3,rfl⟩
    refine wpAny_For ?_ (fun _ => rfl)
    refine Call_ (name_B S.fr hA.kin (topRead_of hA.top) hK.rng rng_boot rng_noname ?_ hF.kind (kind_gl h6) (nodebug_gl h6))
    rw [backTo_ok _ _ h7]
    refine PyProof.Rows.callWith_type (trees_plain _ _) (evalArgs_plain (spliced_cons (wpAny_mono (sE hK hA hF e _ h3 h S hL) (fun v s' q => spliced_nil ?_) fun _ _ e => e)))
    obtain ⟨y,H',l',⟨n,rfl,hn1,hn2,q5⟩,q2,q3,q4⟩ := q
    cases q2
    refine range1_rows q4.fr q4.nw fun h' tk t1 u1 v1 hr F N hkeep => ?_
    have S1 : St prog w g0 g L m H' l' s0 { s' with heap := h',toks := tk } := q4.to F N q4.rep
    refine wpAny_pyIter_range hr (rng_small hn1 hn2) (codeAny_mono (R := fun r s' => match r with | .ok f => SP prog w g0 g L s0 l' Q f s' | .error _ => False) ?_ fun r s' q => by cases r <;> first | exact q.le q3 | exact q.elim)
    have e0 : ({ cls := .type "range_iterator",data := .fields #[rawInt 0,rawInt (Builtin.Range.rangeSize 0 n 1),rawInt 1] } : Obj) = rngIt n.toNat 0 := by
      rw [PyProof.Rows.rangeSize_nat]; simp [rngIt]
    rw [e0]
    refine loop_ok (J := ItIn h'.objs.size fun i o => o = rngIt n.toNat i) (src := fun H => True) (set := fun v ρ => some (put ρ x v)) (B := fun ρ H Q => wpSs (spR prog w K p loose mean mg mb) body ρ H Q) (all := (List.range n.toNat).map fun i : Nat => V.int (i : Int))
      ⟨fun _ _ _ h k => h.le k,fun i v H m l s hv hs S hi => rng_item hA.hnd i v H m l s hv S hi,fun H m l s hs S hi => rng_done hA.hnd H m l s S (by rw [List.length_map,List.length_range] at hi; exact hi),fun _ _ _ _ _ _ _ _ _ _ => own_name,fun v ρ ρ1 val H m l s hs S hL hv => by
        cases hs
        refine wpAny_assign_Name (wpAny_mono (store_ok hF S hL h2 hv) (fun _ s' q => ?_) fun _ _ e => e)
        obtain ⟨m',k1,k2⟩ := q
        exact ⟨m',l,Le.refl l,k1,k2⟩,fun ρ H m l s Q hB S hL => sSs hK hA hF body _ h4 ρ m H l s Q hB S hL⟩
      S1.fresh _ 0 rfl (by simp) ρ H' m _ _ (fun p hp _ _ => .tail _ hp) q5 (S1.newIt rfl) ((hL.mono q3).mono (Le.cons _ _)) ⟨_,.head _,rfl,rfl⟩
  | .forV x e body => by
    intro ex hk ρ m H l s Q h S hL
    simp only [okS] at hk
    split at hk
    case h_2 => exact absurd hk Bool.false_ne_true
    rename_i nn np ff fp ax cp bx pp
    simp only [Bool.and_eq_true,beq_iff_eq] at hk
    obtain ⟨⟨⟨⟨⟨h1,h2⟩,h5⟩,h6⟩,h3⟩,h4⟩ := hk
    subst h1 h5
    simp only [wpS] at h
    have h7 : okEs sc r [e] [ax] = true := by simp only [okEs,Bool.and_eq_true]; exact ⟨h3,rfl⟩
    refine wpAny_For ?_ (fun _ => rfl)
    refine Call_ (name_B S.fr hA.kin (topRead_of hA.top) hK.rev rev_boot rev_noname ?_ hF.kind (kind_gl h6) (nodebug_gl h6))
    rw [backTo_ok _ _ h7]
    refine PyProof.Rows.callWith_type (trees_plain _ _) (evalArgs_plain (spliced_cons (wpAny_mono (sE hK hA hF e _ h3 h S hL) (fun v s' q => spliced_nil ?_) fun _ _ e => e)))
    obtain ⟨y,H',l',⟨b,vs,rfl,hb,q5⟩,q2,q3,q4⟩ := q
    cases q2
    obtain ⟨own,R⟩ := q4.rep
    obtain ⟨us,n,m1,r1⟩ := R.obj b _ hb
    refine krv_reversed q4.fr q4.nw (q4.nw.isList m1) fun D h' F N lt1 => ?_
    have hD : D ∉ l'.map (·.1) := fun hm => by
      obtain ⟨z,hz,e⟩ := List.mem_map.mp hm
      exact absurd (lt1 z hz) (by rw [e]; exact Nat.lt_irrefl _)
    have hne : b ≠ D := fun e => hD (e ▸ List.mem_map.mpr ⟨_,m1,rfl⟩)
    have S1 : St prog w g0 g L m H' ((D,revObj b ((us.length : Int) - 1)) :: l') s0 { s' with heap := h' } := q4.to (t := s'.toks) F N ⟨own,R.more hD⟩
    refine wpAny_pyIter_revIter ⟨_,(N _ (.head _)).1,rfl,rfl⟩ (codeAny_mono (R := fun r s' => match r with | .ok f => SP prog w g0 g L s0 l' Q f s' | .error _ => False) ?_ fun r s' q => by cases r <;> first | exact q.le q3 | exact q.elim)
    rw [r1.length] at S1 N
    refine loop_ok (J := ItIn D fun i o => i ≤ vs.length ∧ o.cls = .type "list_reverseiterator" ∧ o.data = .fields #[.ref b,rawInt ((vs.length : Int) - 1 - (i : Int))]) (src := fun H => H b = some (.list vs)) (set := fun v ρ => some (put ρ x v)) (B := fun ρ H Q => wpSs (spR prog w K p loose mean mg mb) body ρ H Q) (all := vs.reverse)
      ⟨fun _ _ _ h k => h.le k,fun i v H m l s hv hs S hi => rev_item hA.hnd hne i v H m l s hv hs S hi,fun H m l s hs S hi => rev_done hA.hnd hne H m l s hs S (by rw [List.length_reverse] at hi; exact hi),fun _ _ _ _ _ _ _ _ _ _ => own_name,fun v ρ ρ1 val H m l s hs S hL hv => by
        cases hs
        refine wpAny_assign_Name (wpAny_mono (store_ok hF S hL h2 hv) (fun _ s' q => ?_) fun _ _ e => e)
        obtain ⟨m',k1,k2⟩ := q
        exact ⟨m',l,Le.refl l,k1,k2⟩,fun ρ H m l s Q hB S hL => sSs hK hA hF body _ h4 ρ m H l s Q hB S hL⟩
      hD vs.reverse 0 rfl (by simp) ρ H' m _ _ (fun p hp _ _ => .tail _ hp) q5 S1 ((hL.mono q3).mono (Le.cons _ _)) ⟨_,.head _,rfl,Nat.zero_le _,rfl,by simp [revObj]⟩
  | .ret e => by
    intro ex hk ρ m H l s Q h S hL
    simp only [okS] at hk
    split at hk
    case h_2 => exact absurd hk Bool.false_ne_true
    simp only [wpS] at h
    refine wpAny_Return_some (wpAny_mono (sE hK hA hF e _ hk h S hL) (fun v s' q => ?_) fun _ _ e => e)
    obtain ⟨x,H',l',q1,q2,q3,q4⟩ := q
    exact ⟨.ret x,ρ,H',m,l',q1,.ret q2,q3,q4,hL.mono q3⟩
  | .retn => by
    intro ex hk ρ m H l s Q h S hL
    simp only [okS] at hk
    split at hk
    case h_2 => exact absurd hk Bool.false_ne_true
    simp only [wpS] at h
    exact wpAny_Return_none ⟨.ret .none,ρ,H,m,l,h,.ret .none,Le.refl l,S,hL⟩
  | .cont => by
    intro ex hk ρ m H l s Q h S hL
    simp only [okS] at hk
    split at hk
    case h_2 => exact absurd hk Bool.false_ne_true
    simp only [wpS] at h
    exact wpAny_Continue ⟨.cont,ρ,H,m,l,h,.cont,Le.refl l,S,hL⟩
  | .expr e => by
    intro ex hk ρ m H l s Q h S hL
    simp only [okS] at hk
    split at hk
    case h_2 => exact absurd hk Bool.false_ne_true
    simp only [Bool.and_eq_true] at hk
    simp only [wpS] at h
    refine wpAny_Expr_any (wpAny_mono (sE hK hA hF e _ hk.2 h S hL) (fun v s' q => ?_) fun _ _ e => e) ?_ ?_
    · obtain ⟨x,H',l',q1,q2,q3,q4⟩ := q
      exact ⟨.next,ρ,H',m,l',q1,.next,q3,q4,hL.mono q3⟩
    · unfold interactive; rw [hF.kind]; rfl
    · exact swaps_ok hk.1 _ _ _
theorem sSs (hK : KOk K) (hA : Amb K p loose mean mg mb A g (4 * r + 8) (20 * r + 100)) (hF : Frm A g L (envOf cn sc L a ccd)) : ∀ (ss : List S) (xs : List Stmt),okSs sc r ss xs = true → ∀ (ρ : Rho) (m : Str → Option Value) (H : AH) (l : Led) (s : Shared) (Q : SPost),
    wpSs (spR prog w K p loose mean mg mb) ss ρ H Q → St prog w g0 g L m H l s0 s → LR l ρ m → wpAny (model prog w) A (execs xs (envOf cn sc L a ccd)) (SP prog w g0 g L s0 l Q) NoE s
  | [] => by
    intro xs hk ρ m H l s Q h S hL
    simp only [okSs,List.isEmpty_iff] at hk; subst hk
    simp only [wpSs] at h
    exact wpAny_execs_nil ⟨.next,ρ,H,m,l,h,.next,Le.refl l,S,hL⟩
  | st :: ss => by
    intro xs hk ρ m H l s Q h S hL
    simp only [okSs] at hk
    split at hk
    case h_2 => exact absurd hk Bool.false_ne_true
    simp only [Bool.and_eq_true] at hk
    simp only [wpSs] at h
    refine wpAny_execs_cons (wpAny_mono (sS hK hA hF st _ hk.1 ρ m H l s _ h S hL) (fun f s' q => ?_) fun _ _ e => e)
    obtain ⟨fl',ρ',H',m',l',t1,t2,t3,t4,t5⟩ := q
    cases t2 with
    | next => exact wpAny_mono (sSs hK hA hF ss _ hk.2 ρ' m' H' l' s' Q t1 t4 t5) (fun _ _ q => q.le t3) fun _ _ e => e
    | cont => exact ⟨.cont,ρ',H',m',l',t1,.cont,t3,t4,t5⟩
    | ret hv => exact ⟨.ret _,ρ',H',m',l',t1,.ret hv,t3,t4,t5⟩
end
end
end
section

def Fn.dfl (f : Fn) (n : Nat) : Option (List V) :=
  if n ≤ f.params.length ∧ f.params.length - n ≤ f.dflts.length then some (f.dflts.drop (f.dflts.length - (f.params.length - n))) else none
def FnOk (K : Frag) (f : Fn) : Prop := ∃ (name qual : Str) (params : Arguments) (body : List Stmt) (scope : Scope) (dV kV doc pm cdv ct oc : Value) (an od : Option Addr) (osl : Array (Option Value)),
  K.lookup f.addr = some ⟨oc,od,.func (fnOf name qual params body scope dV kV doc pm an cdv ct),osl⟩ ∧ codeIn K cdv qual = true ∧ scope.isCoroutine = false ∧ scope.isGenerator = false ∧ scope.kind = .function ∧
  (∀ x ∈ scope.names,x.2 ≠ .cell) ∧ okSs scope f.rank f.body body = true ∧ (∀ n ∈ f.params,scope.names.lookup n.str = some .local) ∧
  ∀ (vals : List Value) (ds : List V),f.dfl vals.length = some ds → ∃ us,VRs [] ds us ∧ ∀ S,peek K S (bindArgs (fnOf name qual params body scope dV kV doc pm an cdv ct) ⟨vals,[]⟩) = some ((f.params.map N.str).zip (vals ++ us))
theorem params_nodup (f : Fn) : f.params.Nodup := by cases f <;> decide
section
variable {prog : Program} {w : World} {A : Around} {s0 s : Shared} {K : Frag} {g0 g : Heap} {L a I : Addr} {m : Str → Option Value} {H : AH} {l : Led}
  {p : Program} {loose : List Str} {mean : ExcName → Option Value} {mg mb : Str → Option Value}
theorem lookup_zip_none : ∀ {xs : List N} {vals : List Value} {y : N},y ∉ xs → ((xs.map N.str).zip vals).reverse.lookup y.str = none
  | [],_,_,_ => by simp
  | x :: xs,[],_,_ => by simp
  | x :: xs,v :: vs,y,h => by
    simp only [List.mem_cons,not_or] at h
    simp only [List.map_cons,List.zip_cons_cons,List.reverse_cons]
    rw [List.lookup_append,lookup_zip_none h.2]
    have : (y.str == x.str) = false := beq_eq_false_iff_ne.mpr fun q => h.1 (N.inj q)
    simp [List.lookup_cons,this]
theorem binds_lr : ∀ {xs : List N} {vs : List V} {vals : List Value},xs.Nodup → VRs l vs vals → LR l (rhoOf xs vs) (fun y => ((xs.map N.str).zip vals).reverse.lookup y)
  | [],_,_,_,_ => fun x v e => by simp [rhoOf] at e
  | x :: xs,_,_,_,.nil => fun y v e => by simp [rhoOf] at e
  | x :: xs,_,_,hn,.cons (v := u) (vs := us) a b => fun y z e => by
    rw [List.nodup_cons] at hn
    simp only [rhoOf,put_apply] at e
    simp only [List.map_cons,List.zip_cons_cons,List.reverse_cons]
    by_cases hy : y = x
    · subst hy
      rw [if_pos rfl] at e; cases e
      refine ⟨u,?_,a⟩
      rw [List.lookup_append,lookup_zip_none hn.1]
      simp [List.lookup_cons]
    · rw [if_neg hy] at e
      obtain ⟨t,h1,h2⟩ := binds_lr hn.2 b y z e
      refine ⟨t,?_,h2⟩
      have h1 : List.lookup y.str ((List.map N.str xs).zip _).reverse = some t := h1
      rw [List.lookup_append,h1]; rfl
theorem call_sound (hK : KOk K) {f : Fn} (hf : FnOk K f) {vs ds : List V} {Q : Post} (hd : f.dfl vs.length = some ds)
    (h : wpSs (spR prog w K p loose mean mg mb) f.body (rhoOf f.params (vs ++ ds)) H (fun fl _ H' => Q (retOf fl) H')) : spR prog w K p loose mean mg mb f vs H Q := by
  intro A g0 g L m l s0 s env vals hA hF S hv
  obtain ⟨name,qual,params,body,scope,dV,kV,doc,pm,cdv,ct,oc,an,od,osl,ho,hcd,hco,hgen,hk,hcell,hok,hloc,hbind⟩ := hf
  obtain ⟨us,hus,hpeek⟩ := hbind vals ds (by rw [hv.length]; exact hd)
  obtain ⟨A₀,base,outer,B,hfr⟩ := hF.ex
  have hlocs : ∀ y ∈ (f.params.map N.str).zip (vals ++ us),scope.names.lookup y.1 = some .local := fun y hy => by
    obtain ⟨n,hn,e⟩ := List.mem_map.mp (List.of_mem_zip (show (y.1,y.2) ∈ _ from hy)).1
    rw [← e]; exact hloc n hn
  refine code_def B S.fr hA.kin S.nw hA.top hfr hF.fr hF.kind ho hcd (by have := hA.depth; omega) (kp_binds (hA.kin.keeps S.fr.keep) hpeek) hlocs (fun g' L' h₁ F' F1 N1 B1 X1 T1 => ?_) hco hgen hk hcell
  have hA1 : Amb K p loose mean mg mb (A.deeper (envOf qual scope L' f.addr cdv)) g' (4 * f.rank + 8) (20 * f.rank + 100) :=
    ⟨hA.hnd,by show A.depth + 1 + _ < _; have := hA.depth; omega,by show A.units + 3 + _ < _; have := hA.units; omega,X1,T1⟩
  have hF1 : Frm (A.deeper (envOf qual scope L' f.addr cdv)) g' L' (envOf qual scope L' f.addr cdv) :=
    ⟨⟨A,base,env :: outer,B1,by show A.frames.map _ = _; rw [hfr]; rfl⟩,rfl,hk⟩
  have hv' : VRs l (vs ++ ds) (vals ++ us) := hv.append (hus.monoT (fun q (h : q ∈ ([] : Led)) => by cases h))
  have S1 : St prog w g0 g' L' (fun y => ((f.params.map N.str).zip (vals ++ us)).reverse.lookup y) H l s0 { s with heap := h₁,toks := s.toks + ((f.params.map N.str).zip (vals ++ us)).length } :=
    ⟨F1,N1,S.rep,fun b o e => F'.keep b o (S.sub b o e),S.same⟩
  refine wpAny_mono (sSs hK hA1 hF1 f.body body hok _ _ H l _ _ h S1 (binds_lr (params_nodup f) hv')) (fun fl s' q => ?_) fun _ _ e => e.elim
  obtain ⟨fl',ρ',H',m',l',t1,t2,t3,t4,t5⟩ := q
  refine ⟨L',m',l',t4.fr,t4.nw,fun F N => ?_⟩
  have S2 : St prog w g0 g L m H' l' s0 s' := ⟨F,N,t4.rep,S.sub,t4.same⟩
  cases t2 with
  | next => exact ⟨.none,H',l',t1,.none,t3,S2⟩
  | cont => exact ⟨.none,H',l',t1,.none,t3,S2⟩
  | ret hv => exact ⟨_,H',l',t1,hv,t3,S2⟩
end
end
section
theorem k_cls (P : Params) : ∀ c,clsOk (hd.heap_39 P) c = true := by
  intro c; cases c <;> kernel_rfl
theorem k_gl (P : Params) : ∀ f : Fn,f.isGlob = true → nsIn (hd.heap_39 P) mainGlobals f.gname = some (some (.ref f.addr)) := by
  intro f h; cases f <;> first | (cases h; done) | kernel_rfl
theorem k_keepF (P : Params) : ∀ f : Fn,keepIn (hd.heap_39 P) (.ref f.addr) = true := by
  intro f; cases f <;> kernel_rfl
theorem k_keepC (P : Params) : ∀ f : Cls,keepIn (hd.heap_39 P) (.ref f.addr) = true := by
  intro f; cases f <;> kernel_rfl
theorem k_bi (P : Params) : ∀ b : Bi,nsIn (hd.heap_39 P) mainGlobals b.name = some none := by
  intro f; cases f <;> kernel_rfl
theorem k_rng (P : Params) : nsIn (hd.heap_39 P) mainGlobals "range" = some none := by kernel_rfl
theorem k_rev (P : Params) : nsIn (hd.heap_39 P) mainGlobals "reversed" = some none := by kernel_rfl
theorem k_attr0 (P : Params) : ∀ c : Cls,(c.attrs.all fun n => attrOk (hd.heap_39 P) c n) = true := by
  intro c; cases c <;> kernel_rfl
theorem k_meth0 (P : Params) : ∀ c : Cls,(N.all.all fun n => match Cls.meth c n with | some f => methOk (hd.heap_39 P) c n f | none => true) = true := by
  intro c; cases c <;> kernel_rfl
def gintOk (K : Frag) (q : Str × Int) : Bool := match nsIn K mainGlobals q.1 with | some (some (.int i _)) => i == q.2 | _ => false
theorem k_gint0 (P : Params) : (gints.all (gintOk (hd.heap_39 P))) = true := by kernel_rfl
theorem kok (P : Params) : KOk (hd.heap_39 P) where
  cls := k_cls P
  attr := fun c n hn => List.all_eq_true.mp (k_attr0 P c) n hn
  meth := fun c n f h => by have := List.all_eq_true.mp (k_meth0 P c) n (N.mem_all n); rw [h] at this; exact this
  gl := k_gl P
  gint := fun q hq => by
    have := List.all_eq_true.mp (k_gint0 P) q hq
    unfold gintOk at this
    split at this
    · rename_i i t e; exact ⟨t,by rw [e,beq_iff_eq.mp this]⟩
    · cases this
  bi := k_bi P
  rng := k_rng P
  rev := k_rev P
  keepF := k_keepF P
  keepC := k_keepC P
def fnOk (K : Frag) (f : Fn) : Bool := match K.lookup f.addr with
  | some ⟨_,_,.func fd,_⟩ => (match fd.body with
      | .stmts body => codeIn K fd.code fd.qualname && !fd.scope.isCoroutine && !fd.scope.isGenerator && fd.scope.kind == .function && fd.scope.names.all (fun x => x.2 != .cell) && okSs fd.scope f.rank f.body body &&
          f.params.all (fun n => decide (fd.scope.names.lookup n.str = some .local)) && fd.globals == mainGlobals && fd.closure.isEmpty && fd.builtins == builtinsNs
      | _ => false)
  | _ => false
def bnd (K : Frag) (f : Fn) (vals : List Value) (S : Setting) : Option (List (Str × Value)) := match K.lookup f.addr with
  | some ⟨_,_,.func fd,_⟩ => peek K S (bindArgs fd ⟨vals,[]⟩)
  | _ => none
def BdOk (K : Frag) (f : Fn) : Prop := ∀ (vals : List Value) (ds : List V),f.dfl vals.length = some ds → ∃ us,VRs [] ds us ∧ ∀ S,bnd K f vals S = some ((f.params.map N.str).zip (vals ++ us))
theorem fnOk_of {K : Frag} {f : Fn} (h : fnOk K f = true) (b : BdOk K f) : FnOk K f := by
  unfold fnOk at h
  split at h
  case h_2 => cases h
  rename_i oc od fd osl e
  split at h
  case h_2 => cases h
  rename_i body eb
  simp only [Bool.and_eq_true,Bool.not_eq_true',beq_iff_eq,decide_eq_true_eq,List.all_eq_true,bne_iff_ne,List.isEmpty_iff] at h
  obtain ⟨⟨⟨⟨⟨⟨⟨⟨⟨h1,h2⟩,h3⟩,h4⟩,h5⟩,h6⟩,h7⟩,h8⟩,h9⟩,h10⟩ := h
  unfold BdOk bnd at b
  rw [e] at b
  obtain ⟨name,qual,params,fbody,scope,globals,closure,defaults,kwdefaults,doc,pyModule,annotations,code,closureTuple,builtins⟩ := fd
  dsimp only at *
  subst eb h8 h9 h10
  exact ⟨name,qual,params,body,scope,defaults,kwdefaults,doc,pyModule,code,closureTuple,oc,annotations,od,osl,e,h1,h2,h3,h4,h5,h6,h7,b⟩
theorem dfl_bounds {f : Fn} {n : Nat} {ds : List V} (h : f.dfl n = some ds) : n ≤ f.params.length ∧ f.params.length - n ≤ f.dflts.length ∧ ds = f.dflts.drop (f.dflts.length - (f.params.length - n)) := by
  unfold Fn.dfl at h
  split at h
  · rename_i q; cases h; exact ⟨q.1,q.2,rfl⟩
  · cases h
theorem len0 {α : Type} {l : List α} (h : l.length = 0) : l = [] := List.length_eq_zero_iff.mp h
theorem len1 {α : Type} {l : List α} (h : l.length = 1) : ∃ x0,l = [x0] := by
  match l,h with
  | [x0],_ => exact ⟨x0,rfl⟩
theorem len2 {α : Type} {l : List α} (h : l.length = 2) : ∃ x0 x1,l = [x0,x1] := by
  match l,h with
  | [x0,x1],_ => exact ⟨x0,x1,rfl⟩
theorem len3 {α : Type} {l : List α} (h : l.length = 3) : ∃ x0 x1 x2,l = [x0,x1,x2] := by
  match l,h with
  | [x0,x1,x2],_ => exact ⟨x0,x1,x2,rfl⟩
theorem len4 {α : Type} {l : List α} (h : l.length = 4) : ∃ x0 x1 x2 x3,l = [x0,x1,x2,x3] := by
  match l,h with
  | [x0,x1,x2,x3],_ => exact ⟨x0,x1,x2,x3,rfl⟩
theorem len5 {α : Type} {l : List α} (h : l.length = 5) : ∃ x0 x1 x2 x3 x4,l = [x0,x1,x2,x3,x4] := by
  match l,h with
  | [x0,x1,x2,x3,x4],_ => exact ⟨x0,x1,x2,x3,x4,rfl⟩
theorem len6 {α : Type} {l : List α} (h : l.length = 6) : ∃ x0 x1 x2 x3 x4 x5,l = [x0,x1,x2,x3,x4,x5] := by
  match l,h with
  | [x0,x1,x2,x3,x4,x5],_ => exact ⟨x0,x1,x2,x3,x4,x5,rfl⟩
theorem dfl_b {f : Fn} {n a b : Nat} {ds : List V} (h : f.dfl n = some ds) (e1 : f.params.length = a) (e2 : f.dflts.length = b) : n ≤ a ∧ a - n ≤ b ∧ ds = f.dflts.drop (b - (a - n)) := by
  subst e1 e2; exact dfl_bounds h
theorem bd_Interface_find (P : Params) : BdOk (hd.heap_39 P) .f_Interface_find := by
  intro vals ds h
  obtain ⟨h1,h2,h3⟩ := dfl_b (a := 2) (b := 0) h rfl rfl
  have hc : vals.length = 2 := by omega
  obtain ⟨x0,x1,hc⟩ := len2 hc
  subst hc
  subst h3
  exact ⟨[],VRs.nil,fun S => by kernel_rfl⟩
theorem bd_ErrorList_mark (P : Params) : BdOk (hd.heap_39 P) .f_ErrorList_mark := by
  intro vals ds h
  obtain ⟨h1,h2,h3⟩ := dfl_b (a := 3) (b := 0) h rfl rfl
  have hc : vals.length = 3 := by omega
  obtain ⟨x0,x1,x2,hc⟩ := len3 hc
  subst hc
  subst h3
  exact ⟨[],VRs.nil,fun S => by kernel_rfl⟩
theorem bd_Scopes_find (P : Params) : BdOk (hd.heap_39 P) .f_Scopes_find := by
  intro vals ds h
  obtain ⟨h1,h2,h3⟩ := dfl_b (a := 2) (b := 0) h rfl rfl
  have hc : vals.length = 2 := by omega
  obtain ⟨x0,x1,hc⟩ := len2 hc
  subst hc
  subst h3
  exact ⟨[],VRs.nil,fun S => by kernel_rfl⟩
theorem bd_Token_init (P : Params) : BdOk (hd.heap_39 P) .f_Token_init := by
  intro vals ds h
  obtain ⟨h1,h2,h3⟩ := dfl_b (a := 4) (b := 0) h rfl rfl
  have hc : vals.length = 4 := by omega
  obtain ⟨x0,x1,x2,x3,hc⟩ := len4 hc
  subst hc
  subst h3
  exact ⟨[],VRs.nil,fun S => by kernel_rfl⟩
theorem bd_is_letter (P : Params) : BdOk (hd.heap_39 P) .f_is_letter := by
  intro vals ds h
  obtain ⟨h1,h2,h3⟩ := dfl_b (a := 1) (b := 0) h rfl rfl
  have hc : vals.length = 1 := by omega
  obtain ⟨x0,hc⟩ := len1 hc
  subst hc
  subst h3
  exact ⟨[],VRs.nil,fun S => by kernel_rfl⟩
theorem bd_is_digit (P : Params) : BdOk (hd.heap_39 P) .f_is_digit := by
  intro vals ds h
  obtain ⟨h1,h2,h3⟩ := dfl_b (a := 1) (b := 0) h rfl rfl
  have hc : vals.length = 1 := by omega
  obtain ⟨x0,hc⟩ := len1 hc
  subst hc
  subst h3
  exact ⟨[],VRs.nil,fun S => by kernel_rfl⟩
theorem bd_Scanner_char (P : Params) : BdOk (hd.heap_39 P) .f_Scanner_char := by
  intro vals ds h
  obtain ⟨h1,h2,h3⟩ := dfl_b (a := 2) (b := 1) h rfl rfl
  have hc : vals.length = 1 ∨ vals.length = 2 := by omega
  rcases hc with hc | hc
  · obtain ⟨x0,hc⟩ := len1 hc
    subst hc
    subst h3
    exact ⟨[.int 0 634],VRs.cons (.int 0 _) (VRs.nil),fun S => by kernel_rfl⟩
  · obtain ⟨x0,x1,hc⟩ := len2 hc
    subst hc
    subst h3
    exact ⟨[],VRs.nil,fun S => by kernel_rfl⟩
theorem bd_Scanner_remark (P : Params) : BdOk (hd.heap_39 P) .f_Scanner_remark := by
  intro vals ds h
  obtain ⟨h1,h2,h3⟩ := dfl_b (a := 1) (b := 0) h rfl rfl
  have hc : vals.length = 1 := by omega
  obtain ⟨x0,hc⟩ := len1 hc
  subst hc
  subst h3
  exact ⟨[],VRs.nil,fun S => by kernel_rfl⟩
theorem bd_Scanner_skip (P : Params) : BdOk (hd.heap_39 P) .f_Scanner_skip := by
  intro vals ds h
  obtain ⟨h1,h2,h3⟩ := dfl_b (a := 1) (b := 0) h rfl rfl
  have hc : vals.length = 1 := by omega
  obtain ⟨x0,hc⟩ := len1 hc
  subst hc
  subst h3
  exact ⟨[],VRs.nil,fun S => by kernel_rfl⟩
theorem bd_Scanner_word (P : Params) : BdOk (hd.heap_39 P) .f_Scanner_word := by
  intro vals ds h
  obtain ⟨h1,h2,h3⟩ := dfl_b (a := 2) (b := 0) h rfl rfl
  have hc : vals.length = 2 := by omega
  obtain ⟨x0,x1,hc⟩ := len2 hc
  subst hc
  subst h3
  exact ⟨[],VRs.nil,fun S => by kernel_rfl⟩
theorem bd_is_hex_digit (P : Params) : BdOk (hd.heap_39 P) .f_is_hex_digit := by
  intro vals ds h
  obtain ⟨h1,h2,h3⟩ := dfl_b (a := 1) (b := 0) h rfl rfl
  have hc : vals.length = 1 := by omega
  obtain ⟨x0,hc⟩ := len1 hc
  subst hc
  subst h3
  exact ⟨[],VRs.nil,fun S => by kernel_rfl⟩
theorem bd_digits_value (P : Params) : BdOk (hd.heap_39 P) .f_digits_value := by
  intro vals ds h
  obtain ⟨h1,h2,h3⟩ := dfl_b (a := 3) (b := 0) h rfl rfl
  have hc : vals.length = 3 := by omega
  obtain ⟨x0,x1,x2,hc⟩ := len3 hc
  subst hc
  subst h3
  exact ⟨[],VRs.nil,fun S => by kernel_rfl⟩
theorem bd_Scanner_whole (P : Params) : BdOk (hd.heap_39 P) .f_Scanner_whole := by
  intro vals ds h
  obtain ⟨h1,h2,h3⟩ := dfl_b (a := 4) (b := 0) h rfl rfl
  have hc : vals.length = 4 := by omega
  obtain ⟨x0,x1,x2,x3,hc⟩ := len4 hc
  subst hc
  subst h3
  exact ⟨[],VRs.nil,fun S => by kernel_rfl⟩
theorem bd_Scanner_numeral (P : Params) : BdOk (hd.heap_39 P) .f_Scanner_numeral := by
  intro vals ds h
  obtain ⟨h1,h2,h3⟩ := dfl_b (a := 2) (b := 0) h rfl rfl
  have hc : vals.length = 2 := by omega
  obtain ⟨x0,x1,hc⟩ := len2 hc
  subst hc
  subst h3
  exact ⟨[],VRs.nil,fun S => by kernel_rfl⟩
theorem bd_Scanner_symbol (P : Params) : BdOk (hd.heap_39 P) .f_Scanner_symbol := by
  intro vals ds h
  obtain ⟨h1,h2,h3⟩ := dfl_b (a := 1) (b := 0) h rfl rfl
  have hc : vals.length = 1 := by omega
  obtain ⟨x0,hc⟩ := len1 hc
  subst hc
  subst h3
  exact ⟨[],VRs.nil,fun S => by kernel_rfl⟩
theorem bd_Scanner_take (P : Params) : BdOk (hd.heap_39 P) .f_Scanner_take := by
  intro vals ds h
  obtain ⟨h1,h2,h3⟩ := dfl_b (a := 1) (b := 0) h rfl rfl
  have hc : vals.length = 1 := by omega
  obtain ⟨x0,hc⟩ := len1 hc
  subst hc
  subst h3
  exact ⟨[],VRs.nil,fun S => by kernel_rfl⟩
theorem bd_Reader_step (P : Params) : BdOk (hd.heap_39 P) .f_Reader_step := by
  intro vals ds h
  obtain ⟨h1,h2,h3⟩ := dfl_b (a := 1) (b := 0) h rfl rfl
  have hc : vals.length = 1 := by omega
  obtain ⟨x0,hc⟩ := len1 hc
  subst hc
  subst h3
  exact ⟨[],VRs.nil,fun S => by kernel_rfl⟩
theorem bd_Reader_skip (P : Params) : BdOk (hd.heap_39 P) .f_Reader_skip := by
  intro vals ds h
  obtain ⟨h1,h2,h3⟩ := dfl_b (a := 2) (b := 0) h rfl rfl
  have hc : vals.length = 2 := by omega
  obtain ⟨x0,x1,hc⟩ := len2 hc
  subst hc
  subst h3
  exact ⟨[],VRs.nil,fun S => by kernel_rfl⟩
theorem bd_Reader_mark (P : Params) : BdOk (hd.heap_39 P) .f_Reader_mark := by
  intro vals ds h
  obtain ⟨h1,h2,h3⟩ := dfl_b (a := 2) (b := 0) h rfl rfl
  have hc : vals.length = 2 := by omega
  obtain ⟨x0,x1,hc⟩ := len2 hc
  subst hc
  subst h3
  exact ⟨[],VRs.nil,fun S => by kernel_rfl⟩
theorem bd_Reader_expect (P : Params) : BdOk (hd.heap_39 P) .f_Reader_expect := by
  intro vals ds h
  obtain ⟨h1,h2,h3⟩ := dfl_b (a := 2) (b := 0) h rfl rfl
  have hc : vals.length = 2 := by omega
  obtain ⟨x0,x1,hc⟩ := len2 hc
  subst hc
  subst h3
  exact ⟨[],VRs.nil,fun S => by kernel_rfl⟩
theorem bd_Reader_at (P : Params) : BdOk (hd.heap_39 P) .f_Reader_at := by
  intro vals ds h
  obtain ⟨h1,h2,h3⟩ := dfl_b (a := 2) (b := 0) h rfl rfl
  have hc : vals.length = 2 := by omega
  obtain ⟨x0,x1,hc⟩ := len2 hc
  subst hc
  subst h3
  exact ⟨[],VRs.nil,fun S => by kernel_rfl⟩
theorem bd_Reader_name (P : Params) : BdOk (hd.heap_39 P) .f_Reader_name := by
  intro vals ds h
  obtain ⟨h1,h2,h3⟩ := dfl_b (a := 1) (b := 0) h rfl rfl
  have hc : vals.length = 1 := by omega
  obtain ⟨x0,hc⟩ := len1 hc
  subst hc
  subst h3
  exact ⟨[],VRs.nil,fun S => by kernel_rfl⟩
theorem bd_qualident (P : Params) : BdOk (hd.heap_39 P) .f_qualident := by
  intro vals ds h
  obtain ⟨h1,h2,h3⟩ := dfl_b (a := 1) (b := 0) h rfl rfl
  have hc : vals.length = 1 := by omega
  obtain ⟨x0,hc⟩ := len1 hc
  subst hc
  subst h3
  exact ⟨[],VRs.nil,fun S => by kernel_rfl⟩
theorem bd_param_words (P : Params) : BdOk (hd.heap_39 P) .f_param_words := by
  intro vals ds h
  obtain ⟨h1,h2,h3⟩ := dfl_b (a := 1) (b := 0) h rfl rfl
  have hc : vals.length = 1 := by omega
  obtain ⟨x0,hc⟩ := len1 hc
  subst hc
  subst h3
  exact ⟨[],VRs.nil,fun S => by kernel_rfl⟩
theorem bd_is_scalar (P : Params) : BdOk (hd.heap_39 P) .f_is_scalar := by
  intro vals ds h
  obtain ⟨h1,h2,h3⟩ := dfl_b (a := 1) (b := 0) h rfl rfl
  have hc : vals.length = 1 := by omega
  obtain ⟨x0,hc⟩ := len1 hc
  subst hc
  subst h3
  exact ⟨[],VRs.nil,fun S => by kernel_rfl⟩
theorem bd_Type_init (P : Params) : BdOk (hd.heap_39 P) .f_Type_init := by
  intro vals ds h
  obtain ⟨h1,h2,h3⟩ := dfl_b (a := 4) (b := 0) h rfl rfl
  have hc : vals.length = 4 := by omega
  obtain ⟨x0,x1,x2,x3,hc⟩ := len4 hc
  subst hc
  subst h3
  exact ⟨[],VRs.nil,fun S => by kernel_rfl⟩
theorem bd_Obj_init (P : Params) : BdOk (hd.heap_39 P) .f_Obj_init := by
  intro vals ds h
  obtain ⟨h1,h2,h3⟩ := dfl_b (a := 5) (b := 0) h rfl rfl
  have hc : vals.length = 5 := by omega
  obtain ⟨x0,x1,x2,x3,x4,hc⟩ := len5 hc
  subst hc
  subst h3
  exact ⟨[],VRs.nil,fun S => by kernel_rfl⟩
theorem bd_Interface_init (P : Params) : BdOk (hd.heap_39 P) .f_Interface_init := by
  intro vals ds h
  obtain ⟨h1,h2,h3⟩ := dfl_b (a := 3) (b := 0) h rfl rfl
  have hc : vals.length = 3 := by omega
  obtain ⟨x0,x1,x2,hc⟩ := len3 hc
  subst hc
  subst h3
  exact ⟨[],VRs.nil,fun S => by kernel_rfl⟩
theorem bd_Types_new (P : Params) : BdOk (hd.heap_39 P) .f_Types_new := by
  intro vals ds h
  obtain ⟨h1,h2,h3⟩ := dfl_b (a := 5) (b := 2) h rfl rfl
  have hc : vals.length = 3 ∨ vals.length = 4 ∨ vals.length = 5 := by omega
  rcases hc with hc | hc | hc
  · obtain ⟨x0,x1,x2,hc⟩ := len3 hc
    subst hc
    subst h3
    exact ⟨[.str (tx []) 375,.str (tx []) 376],VRs.cons (.str [] _) (VRs.cons (.str [] _) (VRs.nil)),fun S => by kernel_rfl⟩
  · obtain ⟨x0,x1,x2,x3,hc⟩ := len4 hc
    subst hc
    subst h3
    exact ⟨[.str (tx []) 376],VRs.cons (.str [] _) (VRs.nil),fun S => by kernel_rfl⟩
  · obtain ⟨x0,x1,x2,x3,x4,hc⟩ := len5 hc
    subst hc
    subst h3
    exact ⟨[],VRs.nil,fun S => by kernel_rfl⟩
theorem bd_Types_init (P : Params) : BdOk (hd.heap_39 P) .f_Types_init := by
  intro vals ds h
  obtain ⟨h1,h2,h3⟩ := dfl_b (a := 1) (b := 0) h rfl rfl
  have hc : vals.length = 1 := by omega
  obtain ⟨x0,hc⟩ := len1 hc
  subst hc
  subst h3
  exact ⟨[],VRs.nil,fun S => by kernel_rfl⟩
theorem bd_plain_names (P : Params) : BdOk (hd.heap_39 P) .f_plain_names := by
  intro vals ds h
  obtain ⟨h1,h2,h3⟩ := dfl_b (a := 1) (b := 0) h rfl rfl
  have hc : vals.length = 1 := by omega
  obtain ⟨x0,hc⟩ := len1 hc
  subst hc
  subst h3
  exact ⟨[],VRs.nil,fun S => by kernel_rfl⟩
theorem bd_type_name (P : Params) : BdOk (hd.heap_39 P) .f_type_name := by
  intro vals ds h
  obtain ⟨h1,h2,h3⟩ := dfl_b (a := 1) (b := 0) h rfl rfl
  have hc : vals.length = 1 := by omega
  obtain ⟨x0,hc⟩ := len1 hc
  subst hc
  subst h3
  exact ⟨[],VRs.nil,fun S => by kernel_rfl⟩
theorem bd_formal_type (P : Params) : BdOk (hd.heap_39 P) .f_formal_type := by
  intro vals ds h
  obtain ⟨h1,h2,h3⟩ := dfl_b (a := 2) (b := 0) h rfl rfl
  have hc : vals.length = 2 := by omega
  obtain ⟨x0,x1,hc⟩ := len2 hc
  subst hc
  subst h3
  exact ⟨[],VRs.nil,fun S => by kernel_rfl⟩
theorem bd_words_of (P : Params) : BdOk (hd.heap_39 P) .f_words_of := by
  intro vals ds h
  obtain ⟨h1,h2,h3⟩ := dfl_b (a := 1) (b := 0) h rfl rfl
  have hc : vals.length = 1 := by omega
  obtain ⟨x0,hc⟩ := len1 hc
  subst hc
  subst h3
  exact ⟨[],VRs.nil,fun S => by kernel_rfl⟩
theorem bd_section (P : Params) : BdOk (hd.heap_39 P) .f_section := by
  intro vals ds h
  obtain ⟨h1,h2,h3⟩ := dfl_b (a := 3) (b := 0) h rfl rfl
  have hc : vals.length = 3 := by omega
  obtain ⟨x0,x1,x2,hc⟩ := len3 hc
  subst hc
  subst h3
  exact ⟨[],VRs.nil,fun S => by kernel_rfl⟩
theorem bd_result_of (P : Params) : BdOk (hd.heap_39 P) .f_result_of := by
  intro vals ds h
  obtain ⟨h1,h2,h3⟩ := dfl_b (a := 1) (b := 0) h rfl rfl
  have hc : vals.length = 1 := by omega
  obtain ⟨x0,hc⟩ := len1 hc
  subst hc
  subst h3
  exact ⟨[],VRs.nil,fun S => by kernel_rfl⟩
theorem bd_parameters (P : Params) : BdOk (hd.heap_39 P) .f_parameters := by
  intro vals ds h
  obtain ⟨h1,h2,h3⟩ := dfl_b (a := 3) (b := 0) h rfl rfl
  have hc : vals.length = 3 := by omega
  obtain ⟨x0,x1,x2,hc⟩ := len3 hc
  subst hc
  subst h3
  exact ⟨[],VRs.nil,fun S => by kernel_rfl⟩
theorem bd_ErrorList_init (P : Params) : BdOk (hd.heap_39 P) .f_ErrorList_init := by
  intro vals ds h
  obtain ⟨h1,h2,h3⟩ := dfl_b (a := 1) (b := 0) h rfl rfl
  have hc : vals.length = 1 := by omega
  obtain ⟨x0,hc⟩ := len1 hc
  subst hc
  subst h3
  exact ⟨[],VRs.nil,fun S => by kernel_rfl⟩
theorem bd_keywords (P : Params) : BdOk (hd.heap_39 P) .f_keywords := by
  intro vals ds h
  obtain ⟨h1,h2,h3⟩ := dfl_b (a := 0) (b := 0) h rfl rfl
  have hc : vals.length = 0 := by omega
  have hc := len0 hc
  subst hc
  subst h3
  exact ⟨[],VRs.nil,fun S => by kernel_rfl⟩
theorem bd_Scanner_init (P : Params) : BdOk (hd.heap_39 P) .f_Scanner_init := by
  intro vals ds h
  obtain ⟨h1,h2,h3⟩ := dfl_b (a := 3) (b := 0) h rfl rfl
  have hc : vals.length = 3 := by omega
  obtain ⟨x0,x1,x2,hc⟩ := len3 hc
  subst hc
  subst h3
  exact ⟨[],VRs.nil,fun S => by kernel_rfl⟩
theorem bd_Scope_init (P : Params) : BdOk (hd.heap_39 P) .f_Scope_init := by
  intro vals ds h
  obtain ⟨h1,h2,h3⟩ := dfl_b (a := 3) (b := 0) h rfl rfl
  have hc : vals.length = 3 := by omega
  obtain ⟨x0,x1,x2,hc⟩ := len3 hc
  subst hc
  subst h3
  exact ⟨[],VRs.nil,fun S => by kernel_rfl⟩
theorem bd_Scopes_init (P : Params) : BdOk (hd.heap_39 P) .f_Scopes_init := by
  intro vals ds h
  obtain ⟨h1,h2,h3⟩ := dfl_b (a := 3) (b := 0) h rfl rfl
  have hc : vals.length = 3 := by omega
  obtain ⟨x0,x1,x2,hc⟩ := len3 hc
  subst hc
  subst h3
  exact ⟨[],VRs.nil,fun S => by kernel_rfl⟩
theorem bd_Scopes_open (P : Params) : BdOk (hd.heap_39 P) .f_Scopes_open := by
  intro vals ds h
  obtain ⟨h1,h2,h3⟩ := dfl_b (a := 2) (b := 0) h rfl rfl
  have hc : vals.length = 2 := by omega
  obtain ⟨x0,x1,hc⟩ := len2 hc
  subst hc
  subst h3
  exact ⟨[],VRs.nil,fun S => by kernel_rfl⟩
theorem bd_Scopes_current (P : Params) : BdOk (hd.heap_39 P) .f_Scopes_current := by
  intro vals ds h
  obtain ⟨h1,h2,h3⟩ := dfl_b (a := 1) (b := 0) h rfl rfl
  have hc : vals.length = 1 := by omega
  obtain ⟨x0,hc⟩ := len1 hc
  subst hc
  subst h3
  exact ⟨[],VRs.nil,fun S => by kernel_rfl⟩
theorem bd_Scopes_add (P : Params) : BdOk (hd.heap_39 P) .f_Scopes_add := by
  intro vals ds h
  obtain ⟨h1,h2,h3⟩ := dfl_b (a := 2) (b := 0) h rfl rfl
  have hc : vals.length = 2 := by omega
  obtain ⟨x0,x1,hc⟩ := len2 hc
  subst hc
  subst h3
  exact ⟨[],VRs.nil,fun S => by kernel_rfl⟩
theorem bd_Scopes_insert (P : Params) : BdOk (hd.heap_39 P) .f_Scopes_insert := by
  intro vals ds h
  obtain ⟨h1,h2,h3⟩ := dfl_b (a := 5) (b := 0) h rfl rfl
  have hc : vals.length = 5 := by omega
  obtain ⟨x0,x1,x2,x3,x4,hc⟩ := len5 hc
  subst hc
  subst h3
  exact ⟨[],VRs.nil,fun S => by kernel_rfl⟩
theorem bd_std_functions (P : Params) : BdOk (hd.heap_39 P) .f_std_functions := by
  intro vals ds h
  obtain ⟨h1,h2,h3⟩ := dfl_b (a := 0) (b := 0) h rfl rfl
  have hc : vals.length = 0 := by omega
  have hc := len0 hc
  subst hc
  subst h3
  exact ⟨[],VRs.nil,fun S => by kernel_rfl⟩
theorem bd_std_procedures (P : Params) : BdOk (hd.heap_39 P) .f_std_procedures := by
  intro vals ds h
  obtain ⟨h1,h2,h3⟩ := dfl_b (a := 0) (b := 0) h rfl rfl
  have hc : vals.length = 0 := by omega
  have hc := len0 hc
  subst hc
  subst h3
  exact ⟨[],VRs.nil,fun S => by kernel_rfl⟩
theorem bd_fill (P : Params) : BdOk (hd.heap_39 P) .f_fill := by
  intro vals ds h
  obtain ⟨h1,h2,h3⟩ := dfl_b (a := 1) (b := 0) h rfl rfl
  have hc : vals.length = 1 := by omega
  obtain ⟨x0,hc⟩ := len1 hc
  subst hc
  subst h3
  exact ⟨[],VRs.nil,fun S => by kernel_rfl⟩
theorem bd_Reader_init (P : Params) : BdOk (hd.heap_39 P) .f_Reader_init := by
  intro vals ds h
  obtain ⟨h1,h2,h3⟩ := dfl_b (a := 5) (b := 1) h rfl rfl
  have hc : vals.length = 4 ∨ vals.length = 5 := by omega
  rcases hc with hc | hc
  · obtain ⟨x0,x1,x2,x3,hc⟩ := len4 hc
    subst hc
    subst h3
    exact ⟨[.none],VRs.cons .none (VRs.nil),fun S => by kernel_rfl⟩
  · obtain ⟨x0,x1,x2,x3,x4,hc⟩ := len5 hc
    subst hc
    subst h3
    exact ⟨[],VRs.nil,fun S => by kernel_rfl⟩
theorem bd_law_take (P : Params) : BdOk (hd.heap_39 P) .f_law_take := by
  intro vals ds h
  obtain ⟨h1,h2,h3⟩ := dfl_b (a := 2) (b := 0) h rfl rfl
  have hc : vals.length = 2 := by omega
  obtain ⟨x0,x1,hc⟩ := len2 hc
  subst hc
  subst h3
  exact ⟨[],VRs.nil,fun S => by kernel_rfl⟩
theorem bd_law_named (P : Params) : BdOk (hd.heap_39 P) .f_law_named := by
  intro vals ds h
  obtain ⟨h1,h2,h3⟩ := dfl_b (a := 1) (b := 0) h rfl rfl
  have hc : vals.length = 1 := by omega
  obtain ⟨x0,hc⟩ := len1 hc
  subst hc
  subst h3
  exact ⟨[],VRs.nil,fun S => by kernel_rfl⟩
theorem bd_law_loose (P : Params) : BdOk (hd.heap_39 P) .f_law_loose := by
  intro vals ds h
  obtain ⟨h1,h2,h3⟩ := dfl_b (a := 1) (b := 0) h rfl rfl
  have hc : vals.length = 1 := by omega
  obtain ⟨x0,hc⟩ := len1 hc
  subst hc
  subst h3
  exact ⟨[],VRs.nil,fun S => by kernel_rfl⟩
theorem bd_law_of_type (P : Params) : BdOk (hd.heap_39 P) .f_law_of_type := by
  intro vals ds h
  obtain ⟨h1,h2,h3⟩ := dfl_b (a := 1) (b := 0) h rfl rfl
  have hc : vals.length = 1 := by omega
  obtain ⟨x0,hc⟩ := len1 hc
  subst hc
  subst h3
  exact ⟨[],VRs.nil,fun S => by kernel_rfl⟩
theorem bd_law_part (P : Params) : BdOk (hd.heap_39 P) .f_law_part := by
  intro vals ds h
  obtain ⟨h1,h2,h3⟩ := dfl_b (a := 1) (b := 0) h rfl rfl
  have hc : vals.length = 1 := by omega
  obtain ⟨x0,hc⟩ := len1 hc
  subst hc
  subst h3
  exact ⟨[],VRs.nil,fun S => by kernel_rfl⟩
theorem bd_law_formal (P : Params) : BdOk (hd.heap_39 P) .f_law_formal := by
  intro vals ds h
  obtain ⟨h1,h2,h3⟩ := dfl_b (a := 1) (b := 0) h rfl rfl
  have hc : vals.length = 1 := by omega
  obtain ⟨x0,hc⟩ := len1 hc
  subst hc
  subst h3
  exact ⟨[],VRs.nil,fun S => by kernel_rfl⟩
theorem bd_law_row (P : Params) : BdOk (hd.heap_39 P) .f_law_row := by
  intro vals ds h
  obtain ⟨h1,h2,h3⟩ := dfl_b (a := 2) (b := 0) h rfl rfl
  have hc : vals.length = 2 := by omega
  obtain ⟨x0,x1,hc⟩ := len2 hc
  subst hc
  subst h3
  exact ⟨[],VRs.nil,fun S => by kernel_rfl⟩
theorem bd_law_written (P : Params) : BdOk (hd.heap_39 P) .f_law_written := by
  intro vals ds h
  obtain ⟨h1,h2,h3⟩ := dfl_b (a := 2) (b := 0) h rfl rfl
  have hc : vals.length = 2 := by omega
  obtain ⟨x0,x1,hc⟩ := len2 hc
  subst hc
  subst h3
  exact ⟨[],VRs.nil,fun S => by kernel_rfl⟩
theorem bd_law_mark (P : Params) : BdOk (hd.heap_39 P) .f_law_mark := by
  intro vals ds h
  obtain ⟨h1,h2,h3⟩ := dfl_b (a := 3) (b := 0) h rfl rfl
  have hc : vals.length = 3 := by omega
  obtain ⟨x0,x1,x2,hc⟩ := len3 hc
  subst hc
  subst h3
  exact ⟨[],VRs.nil,fun S => by kernel_rfl⟩
theorem bd_law_meaning (P : Params) : BdOk (hd.heap_39 P) .f_law_meaning := by
  intro vals ds h
  obtain ⟨h1,h2,h3⟩ := dfl_b (a := 4) (b := 0) h rfl rfl
  have hc : vals.length = 4 := by omega
  obtain ⟨x0,x1,x2,x3,hc⟩ := len4 hc
  subst hc
  subst h3
  exact ⟨[],VRs.nil,fun S => by kernel_rfl⟩
theorem bd_law_due (P : Params) : BdOk (hd.heap_39 P) .f_law_due := by
  intro vals ds h
  obtain ⟨h1,h2,h3⟩ := dfl_b (a := 5) (b := 0) h rfl rfl
  have hc : vals.length = 5 := by omega
  obtain ⟨x0,x1,x2,x3,x4,hc⟩ := len5 hc
  subst hc
  subst h3
  exact ⟨[],VRs.nil,fun S => by kernel_rfl⟩
theorem bd_law (P : Params) : BdOk (hd.heap_39 P) .f_law := by
  intro vals ds h
  obtain ⟨h1,h2,h3⟩ := dfl_b (a := 1) (b := 0) h rfl rfl
  have hc : vals.length = 1 := by omega
  obtain ⟨x0,hc⟩ := len1 hc
  subst hc
  subst h3
  exact ⟨[],VRs.nil,fun S => by kernel_rfl⟩
theorem k_fn0 (P : Params) : ∀ f : Fn,fnOk (hd.heap_39 P) f = true := by
  intro f; cases f <;> kernel_rfl
theorem k_bd (P : Params) : ∀ f : Fn,BdOk (hd.heap_39 P) f
  | .f_Interface_find => bd_Interface_find P
  | .f_ErrorList_mark => bd_ErrorList_mark P
  | .f_Scopes_find => bd_Scopes_find P
  | .f_Token_init => bd_Token_init P
  | .f_is_letter => bd_is_letter P
  | .f_is_digit => bd_is_digit P
  | .f_Scanner_char => bd_Scanner_char P
  | .f_Scanner_remark => bd_Scanner_remark P
  | .f_Scanner_skip => bd_Scanner_skip P
  | .f_Scanner_word => bd_Scanner_word P
  | .f_is_hex_digit => bd_is_hex_digit P
  | .f_digits_value => bd_digits_value P
  | .f_Scanner_whole => bd_Scanner_whole P
  | .f_Scanner_numeral => bd_Scanner_numeral P
  | .f_Scanner_symbol => bd_Scanner_symbol P
  | .f_Scanner_take => bd_Scanner_take P
  | .f_Reader_step => bd_Reader_step P
  | .f_Reader_skip => bd_Reader_skip P
  | .f_Reader_mark => bd_Reader_mark P
  | .f_Reader_expect => bd_Reader_expect P
  | .f_Reader_at => bd_Reader_at P
  | .f_Reader_name => bd_Reader_name P
  | .f_qualident => bd_qualident P
  | .f_param_words => bd_param_words P
  | .f_is_scalar => bd_is_scalar P
  | .f_Type_init => bd_Type_init P
  | .f_Obj_init => bd_Obj_init P
  | .f_Interface_init => bd_Interface_init P
  | .f_Types_new => bd_Types_new P
  | .f_Types_init => bd_Types_init P
  | .f_plain_names => bd_plain_names P
  | .f_type_name => bd_type_name P
  | .f_formal_type => bd_formal_type P
  | .f_words_of => bd_words_of P
  | .f_section => bd_section P
  | .f_result_of => bd_result_of P
  | .f_parameters => bd_parameters P
  | .f_ErrorList_init => bd_ErrorList_init P
  | .f_keywords => bd_keywords P
  | .f_Scanner_init => bd_Scanner_init P
  | .f_Scope_init => bd_Scope_init P
  | .f_Scopes_init => bd_Scopes_init P
  | .f_Scopes_open => bd_Scopes_open P
  | .f_Scopes_current => bd_Scopes_current P
  | .f_Scopes_add => bd_Scopes_add P
  | .f_Scopes_insert => bd_Scopes_insert P
  | .f_std_functions => bd_std_functions P
  | .f_std_procedures => bd_std_procedures P
  | .f_fill => bd_fill P
  | .f_Reader_init => bd_Reader_init P
  | .f_law_take => bd_law_take P
  | .f_law_named => bd_law_named P
  | .f_law_loose => bd_law_loose P
  | .f_law_of_type => bd_law_of_type P
  | .f_law_part => bd_law_part P
  | .f_law_formal => bd_law_formal P
  | .f_law_row => bd_law_row P
  | .f_law_written => bd_law_written P
  | .f_law_mark => bd_law_mark P
  | .f_law_meaning => bd_law_meaning P
  | .f_law_due => bd_law_due P
  | .f_law => bd_law P
theorem k_fn (P : Params) (f : Fn) : FnOk (hd.heap_39 P) f := fnOk_of (k_fn0 P f) (k_bd P f)
end
section
structure Yes (p : Prop) : Prop where
  h : p
def Calls (sp : Sp) : Prop := ∀ (f : Fn) (vs ds : List V) (H : AH) (Q : Post),
  (if vs.length ≤ f.params.length ∧ f.params.length - vs.length ≤ f.dflts.length then some (f.dflts.drop (f.dflts.length - (f.params.length - vs.length))) else none) = some ds →
  wpSs sp f.body (rhoOf f.params (vs ++ ds)) H (fun fl _ H' => Q (retOf fl) H') → sp f vs H Q
theorem all_iff (P : Prop) [Decidable P] (F : Bool → Prop) : (∀ r : Bool,(r = true ↔ P) → F r) ↔ F (decide P) :=
  ⟨fun h => h _ (by simp),fun h r e => by rw [show r = decide P from by by_cases hp : P <;> simp_all]; exact h⟩
theorem ex_bool (a : Bool) (F : Bool → Prop) : (∃ b,V.bool a = V.bool b ∧ F b) ↔ F a := ⟨fun ⟨b,e,h⟩ => by cases e; exact h,fun h => ⟨a,rfl,h⟩⟩
theorem ex_str (a : Tx) (F : Tx → Prop) : (∃ b,V.str a = V.str b ∧ F b) ↔ F a := ⟨fun ⟨b,e,h⟩ => by cases e; exact h,fun h => ⟨a,rfl,h⟩⟩
theorem ex_int (a : Int) (F : Int → Prop) : (∃ b,V.int a = V.int b ∧ F b) ↔ F a := ⟨fun ⟨b,e,h⟩ => by cases e; exact h,fun h => ⟨a,rfl,h⟩⟩
theorem ex_ref (a : Addr) (F : Addr → Prop) : (∃ b,V.ref a = V.ref b ∧ F b) ↔ F a := ⟨fun ⟨b,e,h⟩ => by cases e; exact h,fun h => ⟨a,rfl,h⟩⟩
theorem attrs_mem (c : Cls) (n : N) (h : decide (n ∈ c.attrs) = true) : (n ∈ c.attrs) = True := eq_true (of_decide_eq_true h)
theorem itemAt_nat {xs : List V} {n : Nat} {v : V} (h : xs[n]? = some v) (hn : n ≤ 10000000) : itemAt xs (n : Int) = some v := by
  rw [itemAt,if_pos (by omega),if_pos (by omega)]; simpa using h
theorem wpSs_nil {sp : Sp} {ρ : Rho} {H : AH} {Q : SPost} : wpSs sp [] ρ H Q = Q .next ρ H := by rw [wpSs]
def seqK (sp : Sp) (r : List S) (Q : SPost) : SPost := fun fl ρ1 H1 => match fl with
    | .next => wpSs sp r ρ1 H1 Q
    | f => Q f ρ1 H1
theorem wpSs_cons {sp : Sp} {s : S} {r : List S} {ρ : Rho} {H : AH} {Q : SPost} : wpSs sp (s :: r) ρ H Q = wpS sp s ρ H (seqK sp r Q) := by rw [wpSs]; rfl
theorem sk_next {sp : Sp} {r : List S} {ρ : Rho} {H : AH} {Q : SPost} : seqK sp r Q .next ρ H = wpSs sp r ρ H Q := rfl
theorem sk_ret {sp : Sp} {r : List S} {ρ : Rho} {H : AH} {Q : SPost} {v : V} : seqK sp r Q (.ret v) ρ H = Q (.ret v) ρ H := rfl
theorem sk_cont {sp : Sp} {r : List S} {ρ : Rho} {H : AH} {Q : SPost} : seqK sp r Q .cont ρ H = Q .cont ρ H := rfl
def bodyB (sp : Sp) (b : List S) : Rho → AH → SPost → Prop := fun ρ H Q => wpSs sp b ρ H Q
def testB (sp : Sp) (t : E) : Rho → AH → (AH → Prop) → (AH → Prop) → Prop := fun ρ H T F => wpT sp ρ t H T F
def asgB (x : N) : V → Rho → Option Rho := fun v ρ => some (put ρ x v)
def srcB (v : V) (vs : List V) : AH → Prop := fun H => itemsOfV v H = some vs
def srcL (a : Addr) (vs : List V) : AH → Prop := fun H => H a = some (.list vs)
section
variable {sp : Sp} {t e : E} {b : List S} {x : N} {xs : List N} {ρ : Rho} {H : AH} {Q : SPost}
theorem s_whl : wpS sp (.whl t b) ρ H Q = whileP (testB sp t) (bodyB sp b) ρ H Q := by rw [wpS]; rfl
theorem s_forS : wpS sp (.forS x e b) ρ H Q = wpE sp ρ e H fun v H1 => ∃ vs,itemsOfV v H1 = some vs ∧ forL (srcB v vs) (asgB x) (bodyB sp b) vs ρ H1 Q := by rw [wpS]; rfl
theorem s_forT : wpS sp (.forT xs e b) ρ H Q = wpE sp ρ e H fun v H1 => ∃ a vs,v = .ref a ∧ H1 a = some (.list vs) ∧ forL (srcL a vs) (setT xs) (bodyB sp b) vs ρ H1 Q := by rw [wpS]; rfl
theorem s_forR : wpS sp (.forR x e b) ρ H Q = wpE sp ρ e H fun v H1 => ∃ n : Int,v = .int n ∧ -1000 ≤ n ∧ n ≤ 1000000 ∧ forL (fun _ => True) (asgB x) (bodyB sp b) ((List.range n.toNat).map fun i : Nat => .int (i : Int)) ρ H1 Q := by rw [wpS]; rfl
theorem s_forV : wpS sp (.forV x e b) ρ H Q = wpE sp ρ e H fun v H1 => ∃ a vs,v = .ref a ∧ H1 a = some (.list vs) ∧ forL (srcL a vs) (asgB x) (bodyB sp b) vs.reverse ρ H1 Q := by rw [wpS]; rfl
end
theorem put_same {α β : Type} [DecidableEq α] {f : α → Option β} {a : α} {b : β} : put f a b a = some b := by rw [put_apply,if_pos rfl]
theorem put_ne {α β : Type} [DecidableEq α] {f : α → Option β} {a x : α} {b : β} (h : x ≠ a) : put f a b x = f x := by rw [put_apply,if_neg h]
theorem put_at {α β : Type} [DecidableEq α] {f : α → Option β} {a x : α} {b : β} {r : Option β} (h : x ≠ a) (e : f x = r) : put f a b x = r := by rw [put_ne h,e]
theorem pA_same {f : AH} {a : Addr} {b : O} : put f a b a = some b := put_same
theorem pA_at {f : AH} {a x : Addr} {b : O} {r : Option O} (h : x ≠ a) (e : f x = r) : put f a b x = r := put_at h e
theorem put_put {α β : Type} [DecidableEq α] (f : α → Option β) (a : α) (b c : β) : put (put f a b) a c = put f a c := by
  funext x; simp only [put_apply]; split <;> rfl
theorem put_self {α β : Type} [DecidableEq α] {f : α → Option β} {a : α} {b : β} (h : f a = some b) : put f a b = f := by
  funext x; simp only [put_apply]; split
  · next e => rw [e,h]
  · rfl
def methP (c : Cls) (n : N) (H : AH) (v : V) (F : Addr → Fn → Prop) : Prop := ∃ a m f,v = .ref a ∧ H a = some (.inst c m) ∧ lk m n = none ∧ Cls.meth c n = some f ∧ F a f
def isLP (H : AH) (v : V) (P : Prop) : Prop := (∃ a xs,v = .ref a ∧ H a = some (.list xs)) ∧ P
def isDP (H : AH) (v : V) (P : Prop) : Prop := (∃ a m,v = .ref a ∧ H a = some (.sd m)) ∧ P
section
variable {sp : Sp} {ρ : Rho} {H : AH} {Q : Post} {a b : Addr} {n : N} {i j : Int} {s t : Tx} {xs ys : List V} {x y v : V} {c : Cls} {m : List (N × V)} {K : Prop → Prop} {QH : AH → Prop} {lo hi : Option Int}
theorem rd_r (h : H a = some (.inst c m)) (h1 : Yes (decide (n ∈ c.attrs) = true)) (h2 : Yes (lk m n = some x)) : rdAttr (.ref a) n H Q = Q x H := by
  simp only [rdAttr,h,h2.h,of_decide_eq_true h1.h,true_and,Option.some.injEq,exists_eq_left']
theorem sa_r (h : H a = some (.inst c m)) (h1 : Yes (decide (n ∈ c.attrs) = true)) (h2 : Yes (decide (m.length ≤ 100) = true)) : setAttrV (.ref a) n x H QH = QH (put H a (.inst c (sset m n x))) := by
  simp only [setAttrV,h,of_decide_eq_true h1.h,of_decide_eq_true h2.h,true_and]
theorem bi_ii : binV .add (.int i) (.int j) H Q = Q (.int (i + j)) H := rfl
theorem bi_ss : binV .add (.str s) (.str t) H Q = (s.length + t.length ≤ 10000000 ∧ Q (.str (s ++ t)) H) := rfl
theorem bi_tt : binV .add (.tup xs) (.tup ys) H Q = (xs.length + ys.length ≤ 1000000 ∧ Q (.tup (xs ++ ys)) H) := rfl
theorem bi_rr (h : H a = some (.list xs)) (h2 : H b = some (.list ys)) : binV .add (.ref a) (.ref b) H Q = (xs.length + ys.length ≤ 1000000 ∧ ∀ c,H c = none → Q (.ref c) (put H c (.list (xs ++ ys)))) := by simp only [binV,h,h2]
theorem bi_sub : binV .sub (.int i) (.int j) H Q = Q (.int (i - j)) H := rfl
theorem bi_mul : binV .mul (.int i) (.int j) H Q = (small i ∧ small j ∧ Q (.int (i * j)) H) := rfl
theorem bi_mulr (h : H a = some (.list [x])) : binV .mul (.ref a) (.int j) H Q = (0 ≤ j ∧ j ≤ 1000 ∧ ∀ c,H c = none → Q (.ref c) (put H c (.list (List.replicate j.toNat x)))) := by simp only [binV,h]
theorem bi_div : binV .fdiv (.int i) (.int j) H Q = (0 < j ∧ j ≤ 1000000 ∧ Q (.int (i / j)) H) := rfl
theorem bi_mod : binV .mod (.int i) (.int j) H Q = (0 < j ∧ Q (.int (i % j)) H) := rfl
theorem ag_ii : augV (.int i) (.int j) H Q = Q (.int (i + j)) H := rfl
theorem ag_ss : augV (.str s) (.str t) H Q = (s.length + t.length ≤ 10000000 ∧ Q (.str (s ++ t)) H) := rfl
theorem ag_rr (h : H a = some (.list xs)) (h2 : H b = some (.list ys)) : augV (.ref a) (.ref b) H Q = (a ≠ b ∧ xs.length + ys.length ≤ 1000000 ∧ Q (.ref a) (put H a (.list (xs ++ ys)))) := by simp only [augV,h,h2]
theorem ix_t : idxV (.tup xs) (.int i) H Q = ∃ v,itemAt xs i = some v ∧ Q v H := rfl
theorem ix_l (h : H a = some (.list xs)) : idxV (.ref a) (.int i) H Q = ∃ v,itemAt xs i = some v ∧ Q v H := by simp only [idxV,h]
theorem ix_d {d : List (Tx × V)} (h : H a = some (.sd d)) : idxV (.ref a) (.str s) H Q = ∃ v,lk d s = some v ∧ Q v H := by simp only [idxV,h]
theorem sl_s : sliceV (.str s) lo hi H Q = (okB lo ∧ okB hi ∧ s.length ≤ 10000000 ∧ Q (.str (cut lo hi s)) H) := rfl
theorem sl_l (h : H a = some (.list xs)) : sliceV (.ref a) lo hi H Q = (okB lo ∧ okB hi ∧ xs.length ≤ 1000000 ∧ ∀ c,H c = none → Q (.ref c) (put H c (.list (cut lo hi xs)))) := by simp only [sliceV,h]
theorem sl_x {ns : List Int} (h : H a = some (.ext ns)) : sliceV (.ref a) lo hi H Q = (okB lo ∧ okB hi ∧ ns.length ≤ 1000000 ∧ ∀ c,H c = none → Q (.ref c) (put H c (.list ((cut lo hi ns).map V.int)))) := by simp only [sliceV,h]
theorem ok_some : okB (some i) = (0 ≤ i ∧ i ≤ 10000000000) := rfl
theorem ok_none : okB none = True := rfl
theorem bf_abs : biV .b_abs [.int i] H Q = Q (.int (if i < 0 then -i else i)) H := rfl
theorem bf_int : biV .b_int [.int i] H Q = Q (.int i) H := rfl
theorem bf_chr : biV .b_chr [.int i] H Q = (0 ≤ i ∧ i ≤ 127 ∧ Q (.str [i.toNat]) H) := rfl
theorem bf_str : biV .b_str [.int i] H Q = (0 ≤ i ∧ i ≤ 9 ∧ Q (.str [48 + i.toNat]) H) := rfl
theorem bf_lens : biV .b_len [.str s] H Q = (s.length ≤ 10000000 ∧ Q (.int s.length) H) := rfl
theorem bf_lenl (h : H a = some (.list xs)) : biV .b_len [.ref a] H Q = (xs.length ≤ 10000000 ∧ Q (.int xs.length) H) := by simp only [biV,h]
theorem bf_ord {k : Nat} : biV .b_ord [.str [k]] H Q = Q (.int k) H := rfl
theorem bf_max : biV .b_max [.int i,.int j] H Q = Q (.int (if j > i then j else i)) H := rfl
theorem bf_list (h : H a = some (.list xs)) : biV .b_list [.ref a] H Q = (xs.length ≤ 1000000 ∧ ∀ c,H c = none → Q (.ref c) (put H c (.list xs))) := by simp only [biV,h]
theorem ap_l (h : H a = some (.list xs)) : appendV (.ref a) x H Q = (xs.length < 1000000 ∧ Q .none (put H a (.list (xs ++ [x])))) := by simp only [appendV,h]
theorem po_l (h : H a = some (.list xs)) : popV (.ref a) H Q = (xs.length ≤ 1000000 ∧ ∃ v,xs.getLast? = some v ∧ Q v (put H a (.list xs.dropLast))) := by simp only [popV,h]
theorem po0_l (h : H a = some (.list (v :: xs))) : pop0V (.ref a) H Q = (xs.length ≤ 1000000 ∧ Q v (put H a (.list xs))) := by simp only [pop0V,h]
theorem dg_l {d : List (Tx × V)} (h : H a = some (.sd d)) : dgetV (.ref a) (.str s) y H Q = Q ((lk d s).getD y) H := by simp only [dgetV,h]
theorem si_l (h : H a = some (.list xs)) : setItemV (.ref a) (.int i) x H QH = (0 ≤ i ∧ i ≤ 1000000 ∧ i.toNat < xs.length ∧ QH (put H a (.list (xs.set i.toNat x)))) := by simp only [setItemV,h]
theorem si_i {d : List (Int × V)} (h : H a = some (.idt d)) : setItemV (.ref a) (.int i) x H QH = (d.length ≤ 1000000 ∧ QH (put H a (.idt (sset d i x)))) := by simp only [setItemV,h]
theorem si_s {d : List (Tx × V)} (h : H a = some (.sd d)) : setItemV (.ref a) (.str s) x H QH = (d.length ≤ 1000000 ∧ QH (put H a (.sd (sset d s x)))) := by simp only [setItemV,h]
theorem si_t {k : Nat} (h : H a = some (.td k)) : setItemV (.ref a) (.tup [.str s,.str t]) x H QH = (k ≤ 1000000 ∧ QH (put H a (.td (k + 1)))) := by
  simp only [setItemV,h]; exact propext ⟨fun h => h.2,fun h => ⟨⟨s,t,rfl⟩,h⟩⟩
theorem cm_eq : cmpP .eq x y H K = eqP H x y K := rfl
theorem cm_ne : cmpP .ne x y H K = eqP H x y fun P => K (¬ P) := rfl
theorem cm_lt : cmpP .lt (.int i) (.int j) H K = K (i < j) := rfl
theorem cm_le : cmpP .le (.int i) (.int j) H K = K (i ≤ j) := rfl
theorem cm_les : cmpP .le (.str s) (.str t) H K = K (¬ t < s) := rfl
theorem cm_gt : cmpP .gt (.int i) (.int j) H K = K (j < i) := rfl
theorem cm_ge : cmpP .ge (.int i) (.int j) H K = K (j ≤ i) := rfl
theorem cm_in : cmpP .isin x y H K = memP H x y K := rfl
theorem cm_notin : cmpP .notin x y H K = memP H x y fun P => K (¬ P) := rfl
theorem cm_is : cmpP .is_ x .none H K = K (x = .none) := rfl
theorem eq_i : eqP H (.int i) (.int j) K = K (i = j) := rfl
theorem eq_s : eqP H (.str s) (.str t) K = K (s = t) := rfl
theorem eq_b {p q : Bool} : eqP H (.bool p) (.bool q) K = K (p = q) := rfl
theorem eq_t : eqP H (.tup xs) (.tup ys) K = (comparable xs ys ∧ K (xs = ys)) := rfl
theorem eq_l (h : H a = some (.list xs)) (h2 : H b = some (.list ys)) : eqP H (.ref a) (.ref b) K = (comparable xs ys ∧ K (xs = ys)) := by simp only [eqP,h,h2]
theorem me_ls (h : H a = some (.list xs)) : memP H (.str s) (.ref a) K = ∃ l,listM strOf xs = some l ∧ K (s ∈ l) := by simp only [memP,h]
theorem me_li (h : H a = some (.list xs)) : memP H (.int i) (.ref a) K = ∃ l,listM intOf xs = some l ∧ K (i ∈ l) := by simp only [memP,h]
theorem me_sd {d : List (Tx × V)} (h : H a = some (.sd d)) : memP H (.str s) (.ref a) K = K ((lk d s).isSome = true) := by simp only [memP,h]
theorem me_id {d : List (Int × V)} (h : H a = some (.idt d)) : memP H (.int i) (.ref a) K = K ((lk d i).isSome = true) := by simp only [memP,h]
theorem me_t : memP H (.str s) (.tup xs) K = ∃ l,listM strOf xs = some l ∧ K (s ∈ l) := rfl
theorem me_s {k : Nat} : memP H (.str [k]) (.str t) K = K (k ∈ t) := rfl
theorem cp_l {f : V → Option V} (h : H a = some (.list xs)) : compV f (.ref a) H Q = (xs.length ≤ 1000000 ∧ ∃ ys,listM f xs = some ys ∧ ∀ c,H c = none → Q (.ref c) (put H c (.list ys))) := by simp only [compV,h]
theorem sq_l (h : H a = some (.list xs)) : seqOf (.ref a) H = some xs := by simp only [seqOf,h]
theorem sq_t : seqOf (.tup xs) H = some xs := rfl
theorem it_l (h : H a = some (.list xs)) : itemsOfV (.ref a) H = some xs := by simp only [itemsOfV,h]
theorem it_t : itemsOfV (.tup xs) H = some xs := rfl
theorem it_s : itemsOfV (.str s) H = some (s.map fun c => .str [c]) := rfl
theorem me_r {f : Fn} {F : Addr → Fn → Prop} (h : H b = some (.inst c m)) (h1 : Yes (lk m n = none)) (h2 : Yes (Cls.meth c n = some f)) : methP c n H (.ref b) F = F b f :=
  propext ⟨fun ⟨a,m',f',e,e1,e2,e3,r⟩ => by cases e; rw [h2.h] at e3; cases e3; exact r,fun r => ⟨b,m,f,rfl,h,h1.h,h2.h,r⟩⟩
theorem is_l {P : Prop} (h : H b = some (.list xs)) : isLP H (.ref b) P = P := propext ⟨fun r => r.2,fun r => ⟨⟨b,xs,rfl,h⟩,r⟩⟩
theorem is_d {P : Prop} {d : List (Tx × V)} (h : H b = some (.sd d)) : isDP H (.ref b) P = P := propext ⟨fun r => r.2,fun r => ⟨⟨b,d,rfl,h⟩,r⟩⟩
theorem e_meth {o : E} {es : List E} : wpE sp ρ (.meth c o n es) H Q = wpE sp ρ o H fun v H1 => methP c n H1 v fun a f => wpEs sp ρ es H1 fun vs H2 => sp f (.ref a :: vs) H2 Q := by
  rw [wpE]; rfl
theorem t_meth {o : E} {es : List E} {T F : AH → Prop} : wpT sp ρ (.meth c o n es) H T F = wpE sp ρ o H fun v H1 => methP c n H1 v fun a f => wpEs sp ρ es H1 fun vs H2 => sp f (.ref a :: vs) H2
      fun v H1 => ∃ b,v = .bool b ∧ (b = true → T H1) ∧ (b = false → F H1) := by
  rw [wpT]; rfl
theorem e_append {o x : E} : wpE sp ρ (.append o x) H Q = wpE sp ρ o H fun v H1 => isLP H1 v (wpE sp ρ x H1 fun y H2 => appendV v y H2 Q) := by rw [wpE]; rfl
theorem e_dget {o k d : E} : wpE sp ρ (.dget o k d) H Q = wpE sp ρ o H fun v H1 => isDP H1 v (wpE sp ρ k H1 fun x H2 => wpE sp ρ d H2 fun y H3 => dgetV v x y H3 Q) := by rw [wpE]; rfl
end
def isL (c : Tx) : Bool := (decide (¬ c < [97]) && decide (¬ [122] < c)) || (decide (¬ c < [65]) && decide (¬ [90] < c))
def isD (c : Tx) : Bool := decide (¬ c < [48]) && decide (¬ [57] < c)
section
variable {sp : Sp} (hC : Calls sp) {H : AH} {Q : Post}
include hC
theorem c_is_letter {c : Tx} (h : Q (.bool (isL c)) H) : sp .f_is_letter [.str c] H Q := by
  refine hC _ _ _ _ _ rfl ?_
  simp (disch := with_unfolding_all (first | exact Yes.mk (id rfl) | assumption | exact pA_same | (refine pA_at ?_ ?_ <;> assumption))) only [b_is_letter,Fn.body,Fn.params,rhoOf,List.append_nil,List.cons_append,List.nil_append,List.drop,Fn.dflts,List.length,↓wpSs_nil,↓wpSs_cons,↓sk_next,↓sk_ret,↓sk_cont,↓wpS.eq_1,↓wpS.eq_2,↓wpS.eq_3,↓wpS.eq_4,↓wpS.eq_5,↓wpS.eq_6,↓wpS.eq_7,↓wpS.eq_13,↓wpS.eq_14,↓wpS.eq_15,↓wpS.eq_16,↓s_whl,↓s_forS,↓s_forT,↓s_forR,↓s_forV,↓wpE.eq_1,↓wpE.eq_2,↓wpE.eq_3,↓wpE.eq_4,↓wpE.eq_5,↓wpE.eq_6,↓wpE.eq_7,↓wpE.eq_8,↓wpE.eq_9,↓wpE.eq_10,↓wpE.eq_11,↓wpE.eq_12,↓wpE.eq_13,↓wpE.eq_14,↓wpE.eq_15,↓wpE.eq_16,↓wpE.eq_17,↓wpE.eq_18,↓wpE.eq_19,↓wpE.eq_20,↓wpE.eq_21,↓wpE.eq_22,↓wpE.eq_24,↓wpE.eq_25,↓wpE.eq_27,↓wpE.eq_28,↓wpE.eq_30,↓wpE.eq_31,↓wpE.eq_32,↓e_meth,↓e_append,↓e_dget,↓wpEs,↓wpO,↓wpDs,↓wpAnd,↓wpOr,↓wpT.eq_1,↓wpT.eq_2,↓wpT.eq_3,↓wpT.eq_4,↓wpT.eq_5,↓wpT.eq_6,↓wpT.eq_7,↓t_meth,↓wpAllT,↓wpAnyT,↓retOf,↓rd_r,↓sa_r,↓bi_ii,↓bi_ss,↓bi_tt,↓bi_rr,↓bi_sub,↓bi_mul,↓bi_mulr,↓bi_div,↓bi_mod,↓ag_ii,↓ag_ss,↓ag_rr,↓ix_t,↓ix_l,↓ix_d,↓sl_s,↓sl_l,↓sl_x,↓bf_abs,↓bf_int,↓bf_chr,↓bf_str,↓bf_lens,↓bf_lenl,↓bf_ord,↓bf_max,↓bf_list,↓ap_l,↓po_l,↓po0_l,↓dg_l,↓si_l,↓si_i,↓si_s,↓si_t,↓cm_eq,↓cm_ne,↓cm_lt,↓cm_le,↓cm_les,↓cm_gt,↓cm_ge,↓cm_in,↓cm_notin,↓cm_is,↓eq_i,↓eq_s,↓eq_b,↓eq_t,↓eq_l,↓me_ls,↓me_li,↓me_sd,↓me_id,↓me_t,↓me_s,↓cp_l,↓sq_l,↓sq_t,↓it_l,↓it_t,↓it_s,↓me_r,↓is_l,↓is_d,↓all_iff,↓ex_bool,↓ex_str,↓ex_int,↓ex_ref,listM,strOf,intOf,putAll,lk,sset,ok_some,ok_none,Option.some.injEq,exists_eq_left',put_apply,reduceCtorEq,if_true,if_false,List.isEmpty,not_false_eq_true,not_true_eq_false,true_and,and_true,forall_const,true_imp_iff,false_imp_iff,Bool.true_eq_false,Bool.false_eq_true,List.length_cons,List.length_nil,Nat.reduceAdd,Nat.reduceLeDiff,Nat.reduceLT,forall_eq,forall_eq']
  revert h
  unfold isL
  cases decide (¬ c < [97]) <;> cases decide (¬ [122] < c) <;> cases decide (¬ c < [65]) <;> cases decide (¬ [90] < c) <;> simp
theorem c_is_digit {c : Tx} (h : Q (.bool (isD c)) H) : sp .f_is_digit [.str c] H Q := by
  refine hC _ _ _ _ _ rfl ?_
  simp (disch := with_unfolding_all (first | exact Yes.mk (id rfl) | assumption | exact pA_same | (refine pA_at ?_ ?_ <;> assumption))) only [b_is_digit,Fn.body,Fn.params,rhoOf,List.append_nil,List.cons_append,List.nil_append,List.drop,Fn.dflts,List.length,↓wpSs_nil,↓wpSs_cons,↓sk_next,↓sk_ret,↓sk_cont,↓wpS.eq_1,↓wpS.eq_2,↓wpS.eq_3,↓wpS.eq_4,↓wpS.eq_5,↓wpS.eq_6,↓wpS.eq_7,↓wpS.eq_13,↓wpS.eq_14,↓wpS.eq_15,↓wpS.eq_16,↓s_whl,↓s_forS,↓s_forT,↓s_forR,↓s_forV,↓wpE.eq_1,↓wpE.eq_2,↓wpE.eq_3,↓wpE.eq_4,↓wpE.eq_5,↓wpE.eq_6,↓wpE.eq_7,↓wpE.eq_8,↓wpE.eq_9,↓wpE.eq_10,↓wpE.eq_11,↓wpE.eq_12,↓wpE.eq_13,↓wpE.eq_14,↓wpE.eq_15,↓wpE.eq_16,↓wpE.eq_17,↓wpE.eq_18,↓wpE.eq_19,↓wpE.eq_20,↓wpE.eq_21,↓wpE.eq_22,↓wpE.eq_24,↓wpE.eq_25,↓wpE.eq_27,↓wpE.eq_28,↓wpE.eq_30,↓wpE.eq_31,↓wpE.eq_32,↓e_meth,↓e_append,↓e_dget,↓wpEs,↓wpO,↓wpDs,↓wpAnd,↓wpOr,↓wpT.eq_1,↓wpT.eq_2,↓wpT.eq_3,↓wpT.eq_4,↓wpT.eq_5,↓wpT.eq_6,↓wpT.eq_7,↓t_meth,↓wpAllT,↓wpAnyT,↓retOf,↓rd_r,↓sa_r,↓bi_ii,↓bi_ss,↓bi_tt,↓bi_rr,↓bi_sub,↓bi_mul,↓bi_mulr,↓bi_div,↓bi_mod,↓ag_ii,↓ag_ss,↓ag_rr,↓ix_t,↓ix_l,↓ix_d,↓sl_s,↓sl_l,↓sl_x,↓bf_abs,↓bf_int,↓bf_chr,↓bf_str,↓bf_lens,↓bf_lenl,↓bf_ord,↓bf_max,↓bf_list,↓ap_l,↓po_l,↓po0_l,↓dg_l,↓si_l,↓si_i,↓si_s,↓si_t,↓cm_eq,↓cm_ne,↓cm_lt,↓cm_le,↓cm_les,↓cm_gt,↓cm_ge,↓cm_in,↓cm_notin,↓cm_is,↓eq_i,↓eq_s,↓eq_b,↓eq_t,↓eq_l,↓me_ls,↓me_li,↓me_sd,↓me_id,↓me_t,↓me_s,↓cp_l,↓sq_l,↓sq_t,↓it_l,↓it_t,↓it_s,↓me_r,↓is_l,↓is_d,↓all_iff,↓ex_bool,↓ex_str,↓ex_int,↓ex_ref,listM,strOf,intOf,putAll,lk,sset,ok_some,ok_none,Option.some.injEq,exists_eq_left',put_apply,reduceCtorEq,if_true,if_false,List.isEmpty,not_false_eq_true,not_true_eq_false,true_and,and_true,forall_const,true_imp_iff,false_imp_iff,Bool.true_eq_false,Bool.false_eq_true,List.length_cons,List.length_nil,Nat.reduceAdd,Nat.reduceLeDiff,Nat.reduceLT,forall_eq,forall_eq']
  revert h
  unfold isD
  cases decide (¬ c < [48]) <;> cases decide (¬ [57] < c) <;> simp
end
end
local macro_rules | `(tactic| walk_at "O") => `(tactic| (simp (disch := with_unfolding_all (first | exact Yes.mk (id rfl) | assumption | exact pA_same | (refine pA_at ?_ ?_ <;> assumption))) only [↓wpSs_nil,↓wpSs_cons,↓sk_next,↓sk_ret,↓sk_cont,↓wpS.eq_1,↓wpS.eq_2,↓wpS.eq_3,↓wpS.eq_4,↓wpS.eq_5,↓wpS.eq_6,↓wpS.eq_7,↓wpS.eq_13,↓wpS.eq_14,↓wpS.eq_15,↓wpS.eq_16,↓s_whl,↓s_forS,↓s_forT,↓s_forR,↓s_forV,↓wpE.eq_1,↓wpE.eq_2,↓wpE.eq_3,↓wpE.eq_4,↓wpE.eq_5,↓wpE.eq_6,↓wpE.eq_7,↓wpE.eq_8,↓wpE.eq_9,↓wpE.eq_10,↓wpE.eq_11,↓wpE.eq_12,↓wpE.eq_13,↓wpE.eq_14,↓wpE.eq_15,↓wpE.eq_16,↓wpE.eq_17,↓wpE.eq_18,↓wpE.eq_19,↓wpE.eq_20,↓wpE.eq_21,↓wpE.eq_22,↓wpE.eq_24,↓wpE.eq_25,↓wpE.eq_27,↓wpE.eq_28,↓wpE.eq_30,↓wpE.eq_31,↓wpE.eq_32,↓e_meth,↓e_append,↓e_dget,↓wpEs,↓wpO,↓wpDs,↓wpAnd,↓wpOr,↓wpT.eq_1,↓wpT.eq_2,↓wpT.eq_3,↓wpT.eq_4,↓wpT.eq_5,↓wpT.eq_6,↓wpT.eq_7,↓t_meth,↓wpAllT,↓wpAnyT,↓retOf,↓rd_r,↓sa_r,↓bi_ii,↓bi_ss,↓bi_tt,↓bi_rr,↓bi_sub,↓bi_mul,↓bi_mulr,↓bi_div,↓bi_mod,↓ag_ii,↓ag_ss,↓ag_rr,↓ix_t,↓ix_l,↓ix_d,↓sl_s,↓sl_l,↓sl_x,↓bf_abs,↓bf_int,↓bf_chr,↓bf_str,↓bf_lens,↓bf_lenl,↓bf_ord,↓bf_max,↓bf_list,↓ap_l,↓po_l,↓po0_l,↓dg_l,↓si_l,↓si_i,↓si_s,↓si_t,↓cm_eq,↓cm_ne,↓cm_lt,↓cm_le,↓cm_les,↓cm_gt,↓cm_ge,↓cm_in,↓cm_notin,↓cm_is,↓eq_i,↓eq_s,↓eq_b,↓eq_t,↓eq_l,↓me_ls,↓me_li,↓me_sd,↓me_id,↓me_t,↓me_s,↓cp_l,↓sq_l,↓sq_t,↓it_l,↓it_t,↓it_s,↓me_r,↓is_l,↓is_d,↓all_iff,↓ex_bool,↓ex_str,↓ex_int,↓ex_ref,listM,strOf,intOf,putAll,lk,sset,ok_some,ok_none,Option.some.injEq,exists_eq_left',put_apply,reduceCtorEq,if_true,if_false,List.isEmpty,not_false_eq_true,not_true_eq_false,true_and,and_true,forall_const,true_imp_iff,false_imp_iff,Bool.true_eq_false,Bool.false_eq_true,List.length_cons,List.length_nil,Nat.reduceAdd,Nat.reduceLeDiff,Nat.reduceLT,forall_eq,forall_eq']))
local macro_rules | `(tactic| walk_at "Or") => do
  let hr := Lean.mkIdent `hr
  `(tactic| (simp (disch := with_unfolding_all (first | exact Yes.mk (id rfl) | assumption | exact pA_same | (refine pA_at ?_ ?_ <;> assumption))) only [↓wpSs_nil,↓wpSs_cons,↓sk_next,↓sk_ret,↓sk_cont,↓wpS.eq_1,↓wpS.eq_2,↓wpS.eq_3,↓wpS.eq_4,↓wpS.eq_5,↓wpS.eq_6,↓wpS.eq_7,↓wpS.eq_13,↓wpS.eq_14,↓wpS.eq_15,↓wpS.eq_16,↓s_whl,↓s_forS,↓s_forT,↓s_forR,↓s_forV,↓wpE.eq_1,↓wpE.eq_2,↓wpE.eq_3,↓wpE.eq_4,↓wpE.eq_5,↓wpE.eq_6,↓wpE.eq_7,↓wpE.eq_8,↓wpE.eq_9,↓wpE.eq_10,↓wpE.eq_11,↓wpE.eq_12,↓wpE.eq_13,↓wpE.eq_14,↓wpE.eq_15,↓wpE.eq_16,↓wpE.eq_17,↓wpE.eq_18,↓wpE.eq_19,↓wpE.eq_20,↓wpE.eq_21,↓wpE.eq_22,↓wpE.eq_24,↓wpE.eq_25,↓wpE.eq_27,↓wpE.eq_28,↓wpE.eq_30,↓wpE.eq_31,↓wpE.eq_32,↓e_meth,↓e_append,↓e_dget,↓wpEs,↓wpO,↓wpDs,↓wpAnd,↓wpOr,↓wpT.eq_1,↓wpT.eq_2,↓wpT.eq_3,↓wpT.eq_4,↓wpT.eq_5,↓wpT.eq_6,↓wpT.eq_7,↓t_meth,↓wpAllT,↓wpAnyT,↓retOf,↓rd_r,↓sa_r,↓bi_ii,↓bi_ss,↓bi_tt,↓bi_rr,↓bi_sub,↓bi_mul,↓bi_mulr,↓bi_div,↓bi_mod,↓ag_ii,↓ag_ss,↓ag_rr,↓ix_t,↓ix_l,↓ix_d,↓sl_s,↓sl_l,↓sl_x,↓bf_abs,↓bf_int,↓bf_chr,↓bf_str,↓bf_lens,↓bf_lenl,↓bf_ord,↓bf_max,↓bf_list,↓ap_l,↓po_l,↓po0_l,↓dg_l,↓si_l,↓si_i,↓si_s,↓si_t,↓cm_eq,↓cm_ne,↓cm_lt,↓cm_le,↓cm_les,↓cm_gt,↓cm_ge,↓cm_in,↓cm_notin,↓cm_is,↓eq_i,↓eq_s,↓eq_b,↓eq_t,↓eq_l,↓me_ls,↓me_li,↓me_sd,↓me_id,↓me_t,↓me_s,↓cp_l,↓sq_l,↓sq_t,↓it_l,↓it_t,↓it_s,↓me_r,↓is_l,↓is_d,↓all_iff,↓ex_bool,↓ex_str,↓ex_int,↓ex_ref,listM,strOf,intOf,putAll,lk,sset,ok_some,ok_none,Option.some.injEq,exists_eq_left',put_apply,reduceCtorEq,if_true,if_false,List.isEmpty,not_false_eq_true,not_true_eq_false,true_and,and_true,forall_const,true_imp_iff,false_imp_iff,Bool.true_eq_false,Bool.false_eq_true,List.length_cons,List.length_nil,Nat.reduceAdd,Nat.reduceLeDiff,Nat.reduceLT,forall_eq,forall_eq',$hr:ident]))
local macro_rules | `(tactic| walk_at "Ore") => do
  let hr := Lean.mkIdent `hr
  let he := Lean.mkIdent `he
  `(tactic| (simp (disch := with_unfolding_all (first | exact Yes.mk (id rfl) | assumption | exact pA_same | (refine pA_at ?_ ?_ <;> assumption))) only [↓wpSs_nil,↓wpSs_cons,↓sk_next,↓sk_ret,↓sk_cont,↓wpS.eq_1,↓wpS.eq_2,↓wpS.eq_3,↓wpS.eq_4,↓wpS.eq_5,↓wpS.eq_6,↓wpS.eq_7,↓wpS.eq_13,↓wpS.eq_14,↓wpS.eq_15,↓wpS.eq_16,↓s_whl,↓s_forS,↓s_forT,↓s_forR,↓s_forV,↓wpE.eq_1,↓wpE.eq_2,↓wpE.eq_3,↓wpE.eq_4,↓wpE.eq_5,↓wpE.eq_6,↓wpE.eq_7,↓wpE.eq_8,↓wpE.eq_9,↓wpE.eq_10,↓wpE.eq_11,↓wpE.eq_12,↓wpE.eq_13,↓wpE.eq_14,↓wpE.eq_15,↓wpE.eq_16,↓wpE.eq_17,↓wpE.eq_18,↓wpE.eq_19,↓wpE.eq_20,↓wpE.eq_21,↓wpE.eq_22,↓wpE.eq_24,↓wpE.eq_25,↓wpE.eq_27,↓wpE.eq_28,↓wpE.eq_30,↓wpE.eq_31,↓wpE.eq_32,↓e_meth,↓e_append,↓e_dget,↓wpEs,↓wpO,↓wpDs,↓wpAnd,↓wpOr,↓wpT.eq_1,↓wpT.eq_2,↓wpT.eq_3,↓wpT.eq_4,↓wpT.eq_5,↓wpT.eq_6,↓wpT.eq_7,↓t_meth,↓wpAllT,↓wpAnyT,↓retOf,↓rd_r,↓sa_r,↓bi_ii,↓bi_ss,↓bi_tt,↓bi_rr,↓bi_sub,↓bi_mul,↓bi_mulr,↓bi_div,↓bi_mod,↓ag_ii,↓ag_ss,↓ag_rr,↓ix_t,↓ix_l,↓ix_d,↓sl_s,↓sl_l,↓sl_x,↓bf_abs,↓bf_int,↓bf_chr,↓bf_str,↓bf_lens,↓bf_lenl,↓bf_ord,↓bf_max,↓bf_list,↓ap_l,↓po_l,↓po0_l,↓dg_l,↓si_l,↓si_i,↓si_s,↓si_t,↓cm_eq,↓cm_ne,↓cm_lt,↓cm_le,↓cm_les,↓cm_gt,↓cm_ge,↓cm_in,↓cm_notin,↓cm_is,↓eq_i,↓eq_s,↓eq_b,↓eq_t,↓eq_l,↓me_ls,↓me_li,↓me_sd,↓me_id,↓me_t,↓me_s,↓cp_l,↓sq_l,↓sq_t,↓it_l,↓it_t,↓it_s,↓me_r,↓is_l,↓is_d,↓all_iff,↓ex_bool,↓ex_str,↓ex_int,↓ex_ref,listM,strOf,intOf,putAll,lk,sset,ok_some,ok_none,Option.some.injEq,exists_eq_left',put_apply,reduceCtorEq,if_true,if_false,List.isEmpty,not_false_eq_true,not_true_eq_false,true_and,and_true,forall_const,true_imp_iff,false_imp_iff,Bool.true_eq_false,Bool.false_eq_true,List.length_cons,List.length_nil,Nat.reduceAdd,Nat.reduceLeDiff,Nat.reduceLT,forall_eq,forall_eq',$hr:ident,$he:ident]))
local macro_rules | `(tactic| walk_at "Ord") => do
  let hr := Lean.mkIdent `hr
  let hd := Lean.mkIdent `hd
  `(tactic| (simp (disch := with_unfolding_all (first | exact Yes.mk (id rfl) | assumption | exact pA_same | (refine pA_at ?_ ?_ <;> assumption))) only [↓wpSs_nil,↓wpSs_cons,↓sk_next,↓sk_ret,↓sk_cont,↓wpS.eq_1,↓wpS.eq_2,↓wpS.eq_3,↓wpS.eq_4,↓wpS.eq_5,↓wpS.eq_6,↓wpS.eq_7,↓wpS.eq_13,↓wpS.eq_14,↓wpS.eq_15,↓wpS.eq_16,↓s_whl,↓s_forS,↓s_forT,↓s_forR,↓s_forV,↓wpE.eq_1,↓wpE.eq_2,↓wpE.eq_3,↓wpE.eq_4,↓wpE.eq_5,↓wpE.eq_6,↓wpE.eq_7,↓wpE.eq_8,↓wpE.eq_9,↓wpE.eq_10,↓wpE.eq_11,↓wpE.eq_12,↓wpE.eq_13,↓wpE.eq_14,↓wpE.eq_15,↓wpE.eq_16,↓wpE.eq_17,↓wpE.eq_18,↓wpE.eq_19,↓wpE.eq_20,↓wpE.eq_21,↓wpE.eq_22,↓wpE.eq_24,↓wpE.eq_25,↓wpE.eq_27,↓wpE.eq_28,↓wpE.eq_30,↓wpE.eq_31,↓wpE.eq_32,↓e_meth,↓e_append,↓e_dget,↓wpEs,↓wpO,↓wpDs,↓wpAnd,↓wpOr,↓wpT.eq_1,↓wpT.eq_2,↓wpT.eq_3,↓wpT.eq_4,↓wpT.eq_5,↓wpT.eq_6,↓wpT.eq_7,↓t_meth,↓wpAllT,↓wpAnyT,↓retOf,↓rd_r,↓sa_r,↓bi_ii,↓bi_ss,↓bi_tt,↓bi_rr,↓bi_sub,↓bi_mul,↓bi_mulr,↓bi_div,↓bi_mod,↓ag_ii,↓ag_ss,↓ag_rr,↓ix_t,↓ix_l,↓ix_d,↓sl_s,↓sl_l,↓sl_x,↓bf_abs,↓bf_int,↓bf_chr,↓bf_str,↓bf_lens,↓bf_lenl,↓bf_ord,↓bf_max,↓bf_list,↓ap_l,↓po_l,↓po0_l,↓dg_l,↓si_l,↓si_i,↓si_s,↓si_t,↓cm_eq,↓cm_ne,↓cm_lt,↓cm_le,↓cm_les,↓cm_gt,↓cm_ge,↓cm_in,↓cm_notin,↓cm_is,↓eq_i,↓eq_s,↓eq_b,↓eq_t,↓eq_l,↓me_ls,↓me_li,↓me_sd,↓me_id,↓me_t,↓me_s,↓cp_l,↓sq_l,↓sq_t,↓it_l,↓it_t,↓it_s,↓me_r,↓is_l,↓is_d,↓all_iff,↓ex_bool,↓ex_str,↓ex_int,↓ex_ref,listM,strOf,intOf,putAll,lk,sset,ok_some,ok_none,Option.some.injEq,exists_eq_left',put_apply,reduceCtorEq,if_true,if_false,List.isEmpty,not_false_eq_true,not_true_eq_false,true_and,and_true,forall_const,true_imp_iff,false_imp_iff,Bool.true_eq_false,Bool.false_eq_true,List.length_cons,List.length_nil,Nat.reduceAdd,Nat.reduceLeDiff,Nat.reduceLT,forall_eq,forall_eq',$hr:ident,$hd:ident]))
section

theorem while_ind {α : Type} {t : Rho → AH → (AH → Prop) → (AH → Prop) → Prop} {B : Rho → AH → SPost → Prop} {Q : SPost} (Inv : α → Rho → AH → Prop) (m : α → Nat)
    (step : ∀ a ρ H (P : Rho → AH → Prop),(∀ a',m a' < m a → ∀ ρ H,Inv a' ρ H → P ρ H) → Inv a ρ H → turnW t B Q P ρ H) {a : α} {ρ : Rho} {H : AH} (h : Inv a ρ H) : whileP t B ρ H Q := by
  intro P hP
  generalize hn : m a = n
  induction n using Nat.strongRecOn generalizing a ρ H with
  | _ n ih => exact hP ρ H (step a ρ H P (fun a' ha ρ' H' hi => ih (m a') (hn ▸ ha) hi rfl) h)
def kws : List V := [.str [65,82,82,65,89],.str [66,69,71,73,78],.str [66,89],.str [67,65,83,69],.str [67,79,78,83,84],.str [68,73,86],.str [68,79],.str [69,76,83,69],.str [69,76,83,73,70],.str [69,78,68],.str [70,79,82],.str [73,70],.str [73,77,80,79,82,84],.str [73,78],.str [73,83],.str [77,79,68],.str [77,79,68,85,76,69],.str [78,73,76],.str [79,70],.str [79,82],.str [80,79,73,78,84,69,82],.str [80,82,79,67,69,68,85,82,69],.str [82,69,67,79,82,68],.str [82,69,80,69,65,84],.str [82,69,84,85,82,78],.str [84,72,69,78],.str [84,79],.str [84,89,80,69],.str [85,78,84,73,76],.str [86,65,82],.str [87,72,73,76,69]]
abbrev scO (src : Tx) (er : Addr) (p : Nat) : O := .inst .c_Scanner [(.n_source,.str src),(.n_errors,.ref er),(.n_place,.int p),(.n_words,.tup kws)]
abbrev tokO (k : Tx) (v : V) (p : Nat) : O := .inst .c_Token [(.n_kind,.str k),(.n_value,v),(.n_place,.int p)]
def at1 (src : Tx) (i : Nat) : Tx := (src.drop i).take 1
theorem cut_at {α : Type} (s : List α) (a b : Nat) (n m : Int) (h1 : n = a) (h2 : m = b) : cut (some n) (some m) s = (s.drop a).take (b - a) := by
  subst h1 h2; simp only [cut,Int.toNat_natCast]; rw [List.drop_take]
section
variable {sp : Sp} (hC : Calls sp) {H : AH} {Q : Post} {src : Tx} {er sc : Addr} {p : Nat} (hs : H sc = some (scO src er p)) (hp : p ≤ 1000000) (hl : src.length ≤ 1000000)
include hC
theorem c_Token {k : Tx} {v : V} {c : Addr} (hc : H c = none) (h : Q .none (put H c (tokO k v p))) : sp .f_Token_init [.ref c,.str k,v,.int p] (put H c (.inst .c_Token [])) Q := by
  refine hC _ _ _ _ _ rfl ?_
  simp (disch := with_unfolding_all (first | exact Yes.mk (id rfl) | assumption | exact pA_same | (refine pA_at ?_ ?_ <;> assumption))) only [b_Token_init,Fn.body,Fn.params,rhoOf,List.append_nil,List.cons_append,List.nil_append,List.drop,Fn.dflts,List.length,↓wpSs_nil,↓wpSs_cons,↓sk_next,↓sk_ret,↓sk_cont,↓wpS.eq_1,↓wpS.eq_2,↓wpS.eq_3,↓wpS.eq_4,↓wpS.eq_5,↓wpS.eq_6,↓wpS.eq_7,↓wpS.eq_13,↓wpS.eq_14,↓wpS.eq_15,↓wpS.eq_16,↓s_whl,↓s_forS,↓s_forT,↓s_forR,↓s_forV,↓wpE.eq_1,↓wpE.eq_2,↓wpE.eq_3,↓wpE.eq_4,↓wpE.eq_5,↓wpE.eq_6,↓wpE.eq_7,↓wpE.eq_8,↓wpE.eq_9,↓wpE.eq_10,↓wpE.eq_11,↓wpE.eq_12,↓wpE.eq_13,↓wpE.eq_14,↓wpE.eq_15,↓wpE.eq_16,↓wpE.eq_17,↓wpE.eq_18,↓wpE.eq_19,↓wpE.eq_20,↓wpE.eq_21,↓wpE.eq_22,↓wpE.eq_24,↓wpE.eq_25,↓wpE.eq_27,↓wpE.eq_28,↓wpE.eq_30,↓wpE.eq_31,↓wpE.eq_32,↓e_meth,↓e_append,↓e_dget,↓wpEs,↓wpO,↓wpDs,↓wpAnd,↓wpOr,↓wpT.eq_1,↓wpT.eq_2,↓wpT.eq_3,↓wpT.eq_4,↓wpT.eq_5,↓wpT.eq_6,↓wpT.eq_7,↓t_meth,↓wpAllT,↓wpAnyT,↓retOf,↓rd_r,↓sa_r,↓bi_ii,↓bi_ss,↓bi_tt,↓bi_rr,↓bi_sub,↓bi_mul,↓bi_mulr,↓bi_div,↓bi_mod,↓ag_ii,↓ag_ss,↓ag_rr,↓ix_t,↓ix_l,↓ix_d,↓sl_s,↓sl_l,↓sl_x,↓bf_abs,↓bf_int,↓bf_chr,↓bf_str,↓bf_lens,↓bf_lenl,↓bf_ord,↓bf_max,↓bf_list,↓ap_l,↓po_l,↓po0_l,↓dg_l,↓si_l,↓si_i,↓si_s,↓si_t,↓cm_eq,↓cm_ne,↓cm_lt,↓cm_le,↓cm_les,↓cm_gt,↓cm_ge,↓cm_in,↓cm_notin,↓cm_is,↓eq_i,↓eq_s,↓eq_b,↓eq_t,↓eq_l,↓me_ls,↓me_li,↓me_sd,↓me_id,↓me_t,↓me_s,↓cp_l,↓sq_l,↓sq_t,↓it_l,↓it_t,↓it_s,↓me_r,↓is_l,↓is_d,↓all_iff,↓ex_bool,↓ex_str,↓ex_int,↓ex_ref,listM,strOf,intOf,putAll,lk,sset,ok_some,ok_none,Option.some.injEq,exists_eq_left',put_apply,reduceCtorEq,if_true,if_false,List.isEmpty,not_false_eq_true,not_true_eq_false,true_and,and_true,forall_const,true_imp_iff,false_imp_iff,Bool.true_eq_false,Bool.false_eq_true,List.length_cons,List.length_nil,Nat.reduceAdd,Nat.reduceLeDiff,Nat.reduceLT,forall_eq,forall_eq',put_put,Nat.le_refl,Nat.zero_le]
  exact h
include hs hp hl
theorem c_char0 (h : Q (.str (at1 src p)) H) : sp .f_Scanner_char [.ref sc] H Q := by
  refine hC _ _ [.int 0] _ _ rfl ?_
  simp (disch := with_unfolding_all (first | exact Yes.mk (id rfl) | assumption | exact pA_same | (refine pA_at ?_ ?_ <;> assumption))) only [b_Scanner_char,Fn.body,Fn.params,rhoOf,List.append_nil,List.cons_append,List.nil_append,List.drop,Fn.dflts,List.length,↓wpSs_nil,↓wpSs_cons,↓sk_next,↓sk_ret,↓sk_cont,↓wpS.eq_1,↓wpS.eq_2,↓wpS.eq_3,↓wpS.eq_4,↓wpS.eq_5,↓wpS.eq_6,↓wpS.eq_7,↓wpS.eq_13,↓wpS.eq_14,↓wpS.eq_15,↓wpS.eq_16,↓s_whl,↓s_forS,↓s_forT,↓s_forR,↓s_forV,↓wpE.eq_1,↓wpE.eq_2,↓wpE.eq_3,↓wpE.eq_4,↓wpE.eq_5,↓wpE.eq_6,↓wpE.eq_7,↓wpE.eq_8,↓wpE.eq_9,↓wpE.eq_10,↓wpE.eq_11,↓wpE.eq_12,↓wpE.eq_13,↓wpE.eq_14,↓wpE.eq_15,↓wpE.eq_16,↓wpE.eq_17,↓wpE.eq_18,↓wpE.eq_19,↓wpE.eq_20,↓wpE.eq_21,↓wpE.eq_22,↓wpE.eq_24,↓wpE.eq_25,↓wpE.eq_27,↓wpE.eq_28,↓wpE.eq_30,↓wpE.eq_31,↓wpE.eq_32,↓e_meth,↓e_append,↓e_dget,↓wpEs,↓wpO,↓wpDs,↓wpAnd,↓wpOr,↓wpT.eq_1,↓wpT.eq_2,↓wpT.eq_3,↓wpT.eq_4,↓wpT.eq_5,↓wpT.eq_6,↓wpT.eq_7,↓t_meth,↓wpAllT,↓wpAnyT,↓retOf,↓rd_r,↓sa_r,↓bi_ii,↓bi_ss,↓bi_tt,↓bi_rr,↓bi_sub,↓bi_mul,↓bi_mulr,↓bi_div,↓bi_mod,↓ag_ii,↓ag_ss,↓ag_rr,↓ix_t,↓ix_l,↓ix_d,↓sl_s,↓sl_l,↓sl_x,↓bf_abs,↓bf_int,↓bf_chr,↓bf_str,↓bf_lens,↓bf_lenl,↓bf_ord,↓bf_max,↓bf_list,↓ap_l,↓po_l,↓po0_l,↓dg_l,↓si_l,↓si_i,↓si_s,↓si_t,↓cm_eq,↓cm_ne,↓cm_lt,↓cm_le,↓cm_les,↓cm_gt,↓cm_ge,↓cm_in,↓cm_notin,↓cm_is,↓eq_i,↓eq_s,↓eq_b,↓eq_t,↓eq_l,↓me_ls,↓me_li,↓me_sd,↓me_id,↓me_t,↓me_s,↓cp_l,↓sq_l,↓sq_t,↓it_l,↓it_t,↓it_s,↓me_r,↓is_l,↓is_d,↓all_iff,↓ex_bool,↓ex_str,↓ex_int,↓ex_ref,listM,strOf,intOf,putAll,lk,sset,ok_some,ok_none,Option.some.injEq,exists_eq_left',put_apply,reduceCtorEq,if_true,if_false,List.isEmpty,not_false_eq_true,not_true_eq_false,true_and,and_true,forall_const,true_imp_iff,false_imp_iff,Bool.true_eq_false,Bool.false_eq_true,List.length_cons,List.length_nil,Nat.reduceAdd,Nat.reduceLeDiff,Nat.reduceLT,forall_eq,forall_eq']
  refine ⟨by omega,by omega,by omega,?_⟩
  rw [cut_at src p (p + 1) _ _ (by omega) (by omega),show p + 1 - p = 1 by omega]
  exact h
theorem c_char1 (h : Q (.str (at1 src (p + 1))) H) : sp .f_Scanner_char [.ref sc,.int 1] H Q := by
  refine hC _ _ [] _ _ rfl ?_
  simp (disch := with_unfolding_all (first | exact Yes.mk (id rfl) | assumption | exact pA_same | (refine pA_at ?_ ?_ <;> assumption))) only [b_Scanner_char,Fn.body,Fn.params,rhoOf,List.append_nil,List.cons_append,List.nil_append,List.drop,Fn.dflts,List.length,↓wpSs_nil,↓wpSs_cons,↓sk_next,↓sk_ret,↓sk_cont,↓wpS.eq_1,↓wpS.eq_2,↓wpS.eq_3,↓wpS.eq_4,↓wpS.eq_5,↓wpS.eq_6,↓wpS.eq_7,↓wpS.eq_13,↓wpS.eq_14,↓wpS.eq_15,↓wpS.eq_16,↓s_whl,↓s_forS,↓s_forT,↓s_forR,↓s_forV,↓wpE.eq_1,↓wpE.eq_2,↓wpE.eq_3,↓wpE.eq_4,↓wpE.eq_5,↓wpE.eq_6,↓wpE.eq_7,↓wpE.eq_8,↓wpE.eq_9,↓wpE.eq_10,↓wpE.eq_11,↓wpE.eq_12,↓wpE.eq_13,↓wpE.eq_14,↓wpE.eq_15,↓wpE.eq_16,↓wpE.eq_17,↓wpE.eq_18,↓wpE.eq_19,↓wpE.eq_20,↓wpE.eq_21,↓wpE.eq_22,↓wpE.eq_24,↓wpE.eq_25,↓wpE.eq_27,↓wpE.eq_28,↓wpE.eq_30,↓wpE.eq_31,↓wpE.eq_32,↓e_meth,↓e_append,↓e_dget,↓wpEs,↓wpO,↓wpDs,↓wpAnd,↓wpOr,↓wpT.eq_1,↓wpT.eq_2,↓wpT.eq_3,↓wpT.eq_4,↓wpT.eq_5,↓wpT.eq_6,↓wpT.eq_7,↓t_meth,↓wpAllT,↓wpAnyT,↓retOf,↓rd_r,↓sa_r,↓bi_ii,↓bi_ss,↓bi_tt,↓bi_rr,↓bi_sub,↓bi_mul,↓bi_mulr,↓bi_div,↓bi_mod,↓ag_ii,↓ag_ss,↓ag_rr,↓ix_t,↓ix_l,↓ix_d,↓sl_s,↓sl_l,↓sl_x,↓bf_abs,↓bf_int,↓bf_chr,↓bf_str,↓bf_lens,↓bf_lenl,↓bf_ord,↓bf_max,↓bf_list,↓ap_l,↓po_l,↓po0_l,↓dg_l,↓si_l,↓si_i,↓si_s,↓si_t,↓cm_eq,↓cm_ne,↓cm_lt,↓cm_le,↓cm_les,↓cm_gt,↓cm_ge,↓cm_in,↓cm_notin,↓cm_is,↓eq_i,↓eq_s,↓eq_b,↓eq_t,↓eq_l,↓me_ls,↓me_li,↓me_sd,↓me_id,↓me_t,↓me_s,↓cp_l,↓sq_l,↓sq_t,↓it_l,↓it_t,↓it_s,↓me_r,↓is_l,↓is_d,↓all_iff,↓ex_bool,↓ex_str,↓ex_int,↓ex_ref,listM,strOf,intOf,putAll,lk,sset,ok_some,ok_none,Option.some.injEq,exists_eq_left',put_apply,reduceCtorEq,if_true,if_false,List.isEmpty,not_false_eq_true,not_true_eq_false,true_and,and_true,forall_const,true_imp_iff,false_imp_iff,Bool.true_eq_false,Bool.false_eq_true,List.length_cons,List.length_nil,Nat.reduceAdd,Nat.reduceLeDiff,Nat.reduceLT,forall_eq,forall_eq']
  refine ⟨by omega,by omega,by omega,?_⟩
  rw [cut_at src (p + 1) (p + 2) _ _ (by omega) (by omega),show p + 2 - (p + 1) = 1 by omega]
  exact h
theorem c_symbol {x : Nat} {b : Tx} (h0 : at1 src p = [x]) (h1 : at1 src (p + 1) = b) (h2 : [x] ++ b ∉ ([[58,61],[60,61],[62,61],[46,46]] : List Tx))
    (h3 : x ∈ ([43,45,42,47,126,38,46,44,59,124,40,91,123,94,61,35,60,62,58,41,93,125] : List Nat)) (h : Q (.str [x]) H) : sp .f_Scanner_symbol [.ref sc] H Q := by
  refine hC _ _ [] _ _ rfl ?_
  have c0 : ∀ {Q : Post},Q (.str [x]) H → sp .f_Scanner_char [.ref sc] H Q := fun h => c_char0 hC hs hp hl (h0 ▸ h)
  have c1 : ∀ {Q : Post},Q (.str b) H → sp .f_Scanner_char [.ref sc,.int 1] H Q := fun h => c_char1 hC hs hp hl (h1 ▸ h)
  have hb : b.length ≤ 1 := by rw [← h1]; simp [at1]; omega
  simp (disch := with_unfolding_all (first | exact Yes.mk (id rfl) | assumption | exact pA_same | (refine pA_at ?_ ?_ <;> assumption))) only [b_Scanner_symbol,Fn.body,Fn.params,rhoOf,List.append_nil,List.cons_append,List.nil_append,List.drop,Fn.dflts,List.length,↓wpSs_nil,↓wpSs_cons,↓sk_next,↓sk_ret,↓sk_cont,↓wpS.eq_1,↓wpS.eq_2,↓wpS.eq_3,↓wpS.eq_4,↓wpS.eq_5,↓wpS.eq_6,↓wpS.eq_7,↓wpS.eq_13,↓wpS.eq_14,↓wpS.eq_15,↓wpS.eq_16,↓s_whl,↓s_forS,↓s_forT,↓s_forR,↓s_forV,↓wpE.eq_1,↓wpE.eq_2,↓wpE.eq_3,↓wpE.eq_4,↓wpE.eq_5,↓wpE.eq_6,↓wpE.eq_7,↓wpE.eq_8,↓wpE.eq_9,↓wpE.eq_10,↓wpE.eq_11,↓wpE.eq_12,↓wpE.eq_13,↓wpE.eq_14,↓wpE.eq_15,↓wpE.eq_16,↓wpE.eq_17,↓wpE.eq_18,↓wpE.eq_19,↓wpE.eq_20,↓wpE.eq_21,↓wpE.eq_22,↓wpE.eq_24,↓wpE.eq_25,↓wpE.eq_27,↓wpE.eq_28,↓wpE.eq_30,↓wpE.eq_31,↓wpE.eq_32,↓e_meth,↓e_append,↓e_dget,↓wpEs,↓wpO,↓wpDs,↓wpAnd,↓wpOr,↓wpT.eq_1,↓wpT.eq_2,↓wpT.eq_3,↓wpT.eq_4,↓wpT.eq_5,↓wpT.eq_6,↓wpT.eq_7,↓t_meth,↓wpAllT,↓wpAnyT,↓retOf,↓rd_r,↓sa_r,↓bi_ii,↓bi_ss,↓bi_tt,↓bi_rr,↓bi_sub,↓bi_mul,↓bi_mulr,↓bi_div,↓bi_mod,↓ag_ii,↓ag_ss,↓ag_rr,↓ix_t,↓ix_l,↓ix_d,↓sl_s,↓sl_l,↓sl_x,↓bf_abs,↓bf_int,↓bf_chr,↓bf_str,↓bf_lens,↓bf_lenl,↓bf_ord,↓bf_max,↓bf_list,↓ap_l,↓po_l,↓po0_l,↓dg_l,↓si_l,↓si_i,↓si_s,↓si_t,↓cm_eq,↓cm_ne,↓cm_lt,↓cm_le,↓cm_les,↓cm_gt,↓cm_ge,↓cm_in,↓cm_notin,↓cm_is,↓eq_i,↓eq_s,↓eq_b,↓eq_t,↓eq_l,↓me_ls,↓me_li,↓me_sd,↓me_id,↓me_t,↓me_s,↓cp_l,↓sq_l,↓sq_t,↓it_l,↓it_t,↓it_s,↓me_r,↓is_l,↓is_d,↓all_iff,↓ex_bool,↓ex_str,↓ex_int,↓ex_ref,listM,strOf,intOf,putAll,lk,sset,ok_some,ok_none,Option.some.injEq,exists_eq_left',put_apply,reduceCtorEq,if_true,if_false,List.isEmpty,not_false_eq_true,not_true_eq_false,true_and,and_true,forall_const,true_imp_iff,false_imp_iff,Bool.true_eq_false,Bool.false_eq_true,List.length_cons,List.length_nil,Nat.reduceAdd,Nat.reduceLeDiff,Nat.reduceLT,forall_eq,forall_eq']
  refine c0 ?_
  walk_at "O"
  refine c1 ?_
  walk_at "O"
  refine ⟨by omega,fun hm => absurd hm h2,fun _ => ?_⟩
  refine c0 ?_
  walk_at "O"
  refine ⟨fun _ => ?_,fun hm => absurd h3 hm⟩
  exact c0 h
end
end
section
def b_skip1 : List S := [S.asg N.n_char (E.meth Cls.c_Scanner (E.loc N.n_self) N.n_char []),S.ifs (E.and [E.cmp COp.eq (E.loc N.n_char) (E.str [40]),E.cmp COp.eq (E.meth Cls.c_Scanner (E.loc N.n_self) N.n_char [E.int 1]) (E.str [42])]) [S.expr (E.meth Cls.c_Scanner (E.loc N.n_self) N.n_remark [])] [S.ifs (E.and [E.cmp COp.ne (E.loc N.n_char) (E.str []),E.cmp COp.le (E.bi Bi.b_ord [E.loc N.n_char]) (E.int 32)]) [S.sattr (E.loc N.n_self) N.n_place (E.bin BOp.add ((E.loc N.n_self).attr N.n_place) (E.int 1))] [S.retn]]]
def isX (c : Tx) : Bool := isD c || (decide (¬ c < [65]) && decide (¬ [70] < c))
section
variable {sp : Sp} (hC : Calls sp) {H : AH} {Q : Post} {src : Tx} {er sc : Addr} {p : Nat} (hs : H sc = some (scO src er p)) (hl : src.length ≤ 1000000)
include hC
theorem c_is_hex {c : Tx} (h : Q (.bool (isX c)) H) : sp .f_is_hex_digit [.str c] H Q := by
  refine hC _ _ _ _ _ rfl ?_
  simp (disch := with_unfolding_all (first | exact Yes.mk (id rfl) | assumption | exact pA_same | (refine pA_at ?_ ?_ <;> assumption))) only [b_is_hex_digit,Fn.body,Fn.params,rhoOf,List.append_nil,List.cons_append,List.nil_append,List.drop,Fn.dflts,List.length,↓wpSs_nil,↓wpSs_cons,↓sk_next,↓sk_ret,↓sk_cont,↓wpS.eq_1,↓wpS.eq_2,↓wpS.eq_3,↓wpS.eq_4,↓wpS.eq_5,↓wpS.eq_6,↓wpS.eq_7,↓wpS.eq_13,↓wpS.eq_14,↓wpS.eq_15,↓wpS.eq_16,↓s_whl,↓s_forS,↓s_forT,↓s_forR,↓s_forV,↓wpE.eq_1,↓wpE.eq_2,↓wpE.eq_3,↓wpE.eq_4,↓wpE.eq_5,↓wpE.eq_6,↓wpE.eq_7,↓wpE.eq_8,↓wpE.eq_9,↓wpE.eq_10,↓wpE.eq_11,↓wpE.eq_12,↓wpE.eq_13,↓wpE.eq_14,↓wpE.eq_15,↓wpE.eq_16,↓wpE.eq_17,↓wpE.eq_18,↓wpE.eq_19,↓wpE.eq_20,↓wpE.eq_21,↓wpE.eq_22,↓wpE.eq_24,↓wpE.eq_25,↓wpE.eq_27,↓wpE.eq_28,↓wpE.eq_30,↓wpE.eq_31,↓wpE.eq_32,↓e_meth,↓e_append,↓e_dget,↓wpEs,↓wpO,↓wpDs,↓wpAnd,↓wpOr,↓wpT.eq_1,↓wpT.eq_2,↓wpT.eq_3,↓wpT.eq_4,↓wpT.eq_5,↓wpT.eq_6,↓wpT.eq_7,↓t_meth,↓wpAllT,↓wpAnyT,↓retOf,↓rd_r,↓sa_r,↓bi_ii,↓bi_ss,↓bi_tt,↓bi_rr,↓bi_sub,↓bi_mul,↓bi_mulr,↓bi_div,↓bi_mod,↓ag_ii,↓ag_ss,↓ag_rr,↓ix_t,↓ix_l,↓ix_d,↓sl_s,↓sl_l,↓sl_x,↓bf_abs,↓bf_int,↓bf_chr,↓bf_str,↓bf_lens,↓bf_lenl,↓bf_ord,↓bf_max,↓bf_list,↓ap_l,↓po_l,↓po0_l,↓dg_l,↓si_l,↓si_i,↓si_s,↓si_t,↓cm_eq,↓cm_ne,↓cm_lt,↓cm_le,↓cm_les,↓cm_gt,↓cm_ge,↓cm_in,↓cm_notin,↓cm_is,↓eq_i,↓eq_s,↓eq_b,↓eq_t,↓eq_l,↓me_ls,↓me_li,↓me_sd,↓me_id,↓me_t,↓me_s,↓cp_l,↓sq_l,↓sq_t,↓it_l,↓it_t,↓it_s,↓me_r,↓is_l,↓is_d,↓all_iff,↓ex_bool,↓ex_str,↓ex_int,↓ex_ref,listM,strOf,intOf,putAll,lk,sset,ok_some,ok_none,Option.some.injEq,exists_eq_left',put_apply,reduceCtorEq,if_true,if_false,List.isEmpty,not_false_eq_true,not_true_eq_false,true_and,and_true,forall_const,true_imp_iff,false_imp_iff,Bool.true_eq_false,Bool.false_eq_true,List.length_cons,List.length_nil,Nat.reduceAdd,Nat.reduceLeDiff,Nat.reduceLT,forall_eq,forall_eq']
  refine c_is_digit hC ?_
  walk_at "O"
  revert h
  unfold isX
  cases isD c <;> cases decide (¬ c < [65]) <;> cases decide (¬ [70] < c) <;> simp
include hs hl
theorem skip_blank {x : Nat} {ρ : Rho} {Q : SPost} {P : Rho → AH → Prop} (hp : p ≤ 1000000) (h0 : at1 src p = [x]) (hx : x ≤ 32) (hr : ρ .n_self = some (.ref sc))
    (h : P (put ρ .n_char (.str [x])) (put H sc (scO src er (p + 1)))) : turnW (testB sp (.bool true)) (bodyB sp b_skip1) Q P ρ H := by
  have c0 : ∀ {Q : Post},Q (.str [x]) H → sp .f_Scanner_char [.ref sc] H Q := fun h => c_char0 hC hs hp hl (h0 ▸ h)
  simp only [turnW,testB,bodyB,b_skip1]
  walk_at "Or"
  refine c0 ?_
  walk_at "Or"
  refine ⟨fun e => absurd (List.cons.inj e).1 (by omega),fun _ => ⟨fun _ => h,fun e => absurd (show (x : Int) ≤ 32 by omega) e⟩⟩
theorem skip_end {x : Nat} {b : Tx} {ρ : Rho} {Q : SPost} {P : Rho → AH → Prop} (hp : p ≤ 1000000) (h0 : at1 src p = [x]) (h1 : at1 src (p + 1) = b) (hx : 32 < x) (hb : x = 40 → b ≠ [42]) (hr : ρ .n_self = some (.ref sc))
    (h : ∀ ρ,Q (.ret .none) ρ H) : turnW (testB sp (.bool true)) (bodyB sp b_skip1) Q P ρ H := by
  have c0 : ∀ {Q : Post},Q (.str [x]) H → sp .f_Scanner_char [.ref sc] H Q := fun h => c_char0 hC hs hp hl (h0 ▸ h)
  have c1 : ∀ {Q : Post},Q (.str b) H → sp .f_Scanner_char [.ref sc,.int 1] H Q := fun h => c_char1 hC hs hp hl (h1 ▸ h)
  simp only [turnW,testB,bodyB,b_skip1]
  walk_at "Or"
  refine c0 ?_
  walk_at "Or"
  refine ⟨fun e => c1 ?_,fun _ => ⟨fun e => absurd e (by omega),fun _ => h _⟩⟩
  walk_at "Or"
  refine ⟨fun e2 => absurd e2 (hb (List.cons.inj e).1),fun _ => ⟨fun e => absurd e (by omega),fun _ => h _⟩⟩
theorem skip_eof {ρ : Rho} {Q : SPost} {P : Rho → AH → Prop} (hp : p ≤ 1000000) (h0 : at1 src p = []) (hr : ρ .n_self = some (.ref sc))
    (h : ∀ ρ,Q (.ret .none) ρ H) : turnW (testB sp (.bool true)) (bodyB sp b_skip1) Q P ρ H := by
  have c0 : ∀ {Q : Post},Q (.str []) H → sp .f_Scanner_char [.ref sc] H Q := fun h => c_char0 hC hs hp hl (h0 ▸ h)
  simp only [turnW,testB,bodyB,b_skip1]
  walk_at "Or"
  refine c0 ?_
  walk_at "Or"
  exact h _
theorem skip_remark {ρ : Rho} {Q : SPost} {P : Rho → AH → Prop} (hp : p ≤ 1000000) (h0 : at1 src p = [40]) (h1 : at1 src (p + 1) = [42]) (hr : ρ .n_self = some (.ref sc))
    (h : sp .f_Scanner_remark [.ref sc] H fun _ H1 => P (put ρ .n_char (.str [40])) H1) : turnW (testB sp (.bool true)) (bodyB sp b_skip1) Q P ρ H := by
  have c0 : ∀ {Q : Post},Q (.str [40]) H → sp .f_Scanner_char [.ref sc] H Q := fun h => c_char0 hC hs hp hl (h0 ▸ h)
  have c1 : ∀ {Q : Post},Q (.str [42]) H → sp .f_Scanner_char [.ref sc,.int 1] H Q := fun h => c_char1 hC hs hp hl (h1 ▸ h)
  simp only [turnW,testB,bodyB,b_skip1]
  walk_at "Or"
  refine c0 ?_
  walk_at "Or"
  refine c1 ?_
  walk_at "Or"
  exact h
end
end
section
section
variable {sp : Sp} (hC : Calls sp) {H : AH} {Q : Post} {src : Tx} {er sc : Addr} {p : Nat} (hs : H sc = some (scO src er p)) (hl : src.length ≤ 1000000)
include hC hs hl
def b_rem : List S := [.asg .n_pair (E.bin .add (E.meth .c_Scanner (E.loc .n_self) .n_char []) (E.meth .c_Scanner (E.loc .n_self) .n_char [(E.int 1)])),.ifs (E.cmp .eq (E.loc .n_pair) (E.str [])) [.expr (E.meth .c_ErrorList (E.attr (E.loc .n_self) .n_errors) .n_mark [(E.loc .n_begun),(E.str [117,110,102,105,110,105,115,104,101,100,95,99,111,109,109,101,110,116])]),.retn] [],.ifs (E.cmp .eq (E.loc .n_pair) (E.str [40,42])) [.asg .n_depth (E.bin .add (E.loc .n_depth) (E.int 1)),.sattr (E.loc .n_self) .n_place (E.bin .add (E.attr (E.loc .n_self) .n_place) (E.int 2))] [.ifs (E.cmp .eq (E.loc .n_pair) (E.str [42,41])) [.asg .n_depth (E.bin .sub (E.loc .n_depth) (E.int 1)),.sattr (E.loc .n_self) .n_place (E.bin .add (E.attr (E.loc .n_self) .n_place) (E.int 2))] [.sattr (E.loc .n_self) .n_place (E.bin .add (E.attr (E.loc .n_self) .n_place) (E.int 1))]]]
theorem rem_turn {x y : Nat} {d d' : Int} {k : Nat} {ρ : Rho} {Q : SPost} {P : Rho → AH → Prop} (hp : p ≤ 1000000) (h0 : at1 src p = [x]) (h1 : at1 src (p + 1) = [y]) (hr : ρ .n_self = some (.ref sc)) (hd : ρ .n_depth = some (.int d)) (hd0 : 0 < d)
    (hk : (if [x,y] = [40,42] then d + 1 else if [x,y] = [42,41] then d - 1 else d) = d') (hk2 : (if [x,y] = [40,42] then 2 else if [x,y] = [42,41] then 2 else 1) = k)
    (h : ∀ ρ',ρ' .n_self = some (.ref sc) → ρ' .n_depth = some (.int d') → P ρ' (put H sc (scO src er (p + k)))) : turnW (testB sp (E.cmp .gt (E.loc .n_depth) (E.int 0))) (bodyB sp b_rem) Q P ρ H := by
  have c0 : ∀ {Q : Post},Q (.str [x]) H → sp .f_Scanner_char [.ref sc] H Q := fun h => c_char0 hC hs hp hl (h0 ▸ h)
  have c1 : ∀ {Q : Post},Q (.str [y]) H → sp .f_Scanner_char [.ref sc,.int 1] H Q := fun h => c_char1 hC hs hp hl (h1 ▸ h)
  simp only [turnW,testB,bodyB,b_rem]
  walk_at "Ord"
  refine ⟨fun _ => c0 ?_,fun e => absurd hd0 e⟩
  walk_at "Ord"
  refine c1 ?_
  walk_at "Ord"
  refine ⟨fun e => absurd e (by simp),fun _ => ⟨fun e => ?_,fun e => ⟨fun e2 => ?_,fun e2 => ?_⟩⟩⟩
  · have e : [x,y] = [40,42] := e
    rw [if_pos e] at hk hk2; subst hk hk2
    exact h _ (by simp [put_apply,hr]) (by simp [put_apply])
  · have e : ¬ [x,y] = [40,42] := e
    have e2 : [x,y] = [42,41] := e2
    rw [if_neg e,if_pos e2] at hk hk2; subst hk hk2
    exact h _ (by simp [put_apply,hr]) (by simp [put_apply])
  · have e : ¬ [x,y] = [40,42] := e
    have e2 : ¬ [x,y] = [42,41] := e2
    rw [if_neg e,if_neg e2] at hk hk2; subst hk hk2
    exact h _ (by simp [put_apply,hr]) (by simp [put_apply,hd])
end
end
section
section
variable {sp : Sp} (hC : Calls sp) {H : AH} {Q : Post} {src : Tx} {er sc : Addr} {p : Nat} (hs : H sc = some (scO src er p)) (hl : src.length ≤ 1000000)
include hC hs hl
theorem c_remark (hp : p ≤ 900000) (h2 : at1 src (p + 2) = [32]) (h3 : at1 src (p + 3) = [59]) (h4 : at1 src (p + 4) = [40]) (h5 : at1 src (p + 5) = [42]) (h6 : at1 src (p + 6) = [58]) (h7 : at1 src (p + 7) = [42])
    (h8 : at1 src (p + 8) = [41]) (h9 : at1 src (p + 9) = [42]) (h10 : at1 src (p + 10) = [41]) (h : Q .none (put H sc (scO src er (p + 11)))) : sp .f_Scanner_remark [.ref sc] H Q := by
  refine hC _ _ [] _ _ rfl ?_
  simp (disch := with_unfolding_all (first | exact Yes.mk (id rfl) | assumption | exact pA_same | (refine pA_at ?_ ?_ <;> assumption))) only [b_Scanner_remark,Fn.body,Fn.params,rhoOf,List.append_nil,List.cons_append,List.nil_append,List.drop,Fn.dflts,List.length,↓wpSs_nil,↓wpSs_cons,↓sk_next,↓sk_ret,↓sk_cont,↓wpS.eq_1,↓wpS.eq_2,↓wpS.eq_3,↓wpS.eq_4,↓wpS.eq_5,↓wpS.eq_6,↓wpS.eq_7,↓wpS.eq_13,↓wpS.eq_14,↓wpS.eq_15,↓wpS.eq_16,↓s_whl,↓s_forS,↓s_forT,↓s_forR,↓s_forV,↓wpE.eq_1,↓wpE.eq_2,↓wpE.eq_3,↓wpE.eq_4,↓wpE.eq_5,↓wpE.eq_6,↓wpE.eq_7,↓wpE.eq_8,↓wpE.eq_9,↓wpE.eq_10,↓wpE.eq_11,↓wpE.eq_12,↓wpE.eq_13,↓wpE.eq_14,↓wpE.eq_15,↓wpE.eq_16,↓wpE.eq_17,↓wpE.eq_18,↓wpE.eq_19,↓wpE.eq_20,↓wpE.eq_21,↓wpE.eq_22,↓wpE.eq_24,↓wpE.eq_25,↓wpE.eq_27,↓wpE.eq_28,↓wpE.eq_30,↓wpE.eq_31,↓wpE.eq_32,↓e_meth,↓e_append,↓e_dget,↓wpEs,↓wpO,↓wpDs,↓wpAnd,↓wpOr,↓wpT.eq_1,↓wpT.eq_2,↓wpT.eq_3,↓wpT.eq_4,↓wpT.eq_5,↓wpT.eq_6,↓wpT.eq_7,↓t_meth,↓wpAllT,↓wpAnyT,↓retOf,↓rd_r,↓sa_r,↓bi_ii,↓bi_ss,↓bi_tt,↓bi_rr,↓bi_sub,↓bi_mul,↓bi_mulr,↓bi_div,↓bi_mod,↓ag_ii,↓ag_ss,↓ag_rr,↓ix_t,↓ix_l,↓ix_d,↓sl_s,↓sl_l,↓sl_x,↓bf_abs,↓bf_int,↓bf_chr,↓bf_str,↓bf_lens,↓bf_lenl,↓bf_ord,↓bf_max,↓bf_list,↓ap_l,↓po_l,↓po0_l,↓dg_l,↓si_l,↓si_i,↓si_s,↓si_t,↓cm_eq,↓cm_ne,↓cm_lt,↓cm_le,↓cm_les,↓cm_gt,↓cm_ge,↓cm_in,↓cm_notin,↓cm_is,↓eq_i,↓eq_s,↓eq_b,↓eq_t,↓eq_l,↓me_ls,↓me_li,↓me_sd,↓me_id,↓me_t,↓me_s,↓cp_l,↓sq_l,↓sq_t,↓it_l,↓it_t,↓it_s,↓me_r,↓is_l,↓is_d,↓all_iff,↓ex_bool,↓ex_str,↓ex_int,↓ex_ref,listM,strOf,intOf,putAll,lk,sset,ok_some,ok_none,Option.some.injEq,exists_eq_left',put_apply,reduceCtorEq,if_true,if_false,List.isEmpty,not_false_eq_true,not_true_eq_false,true_and,and_true,forall_const,true_imp_iff,false_imp_iff,Bool.true_eq_false,Bool.false_eq_true,List.length_cons,List.length_nil,Nat.reduceAdd,Nat.reduceLeDiff,Nat.reduceLT,forall_eq,forall_eq']
  intro P hP
  have tr : ∀ {x y : Nat} {d d' : Int} {i j : Nat} {ρ : Rho},i ≤ 11 → at1 src (p + i) = [x] → at1 src (p + i + 1) = [y] → ρ .n_self = some (.ref sc) → ρ .n_depth = some (.int d) → 0 < d →
      (if [x,y] = [40,42] then d + 1 else if [x,y] = [42,41] then d - 1 else d) = d' → p + i + (if [x,y] = [40,42] then 2 else if [x,y] = [42,41] then 2 else 1) = p + j →
      (∀ ρ',ρ' .n_self = some (.ref sc) → ρ' .n_depth = some (.int d') → P ρ' (put H sc (scO src er (p + j)))) → P ρ (put H sc (scO src er (p + i))) := by
    intro x y d d' i j ρ hi a b c e f g k r
    refine hP _ _ (rem_turn hC (put_same) hl (by omega) a b c e f g rfl fun ρ' u v => ?_)
    rw [put_put,k]; exact r ρ' u v
  refine tr (i := 2) (j := 3) (d' := 1) (by omega) h2 h3 rfl rfl (by omega) rfl rfl fun ρ a b => ?_
  refine tr (i := 3) (j := 4) (d' := 1) (by omega) h3 h4 a b (by omega) rfl rfl fun ρ a b => ?_
  refine tr (i := 4) (j := 6) (d' := 2) (by omega) h4 h5 a b (by omega) rfl rfl fun ρ a b => ?_
  refine tr (i := 6) (j := 7) (d' := 2) (by omega) h6 h7 a b (by omega) rfl rfl fun ρ a b => ?_
  refine tr (i := 7) (j := 9) (d' := 1) (by omega) h7 h8 a b (by omega) rfl rfl fun ρ a b => ?_
  refine tr (i := 9) (j := 11) (d' := 0) (by omega) h9 h10 a b (by omega) rfl rfl fun ρ a b => ?_
  refine hP _ _ ?_
  simp only [turnW,testB,bodyB]
  simp (disch := with_unfolding_all (first | exact Yes.mk (id rfl) | assumption | exact pA_same | (refine pA_at ?_ ?_ <;> assumption))) only [↓wpSs_nil,↓wpSs_cons,↓sk_next,↓sk_ret,↓sk_cont,↓wpS.eq_1,↓wpS.eq_2,↓wpS.eq_3,↓wpS.eq_4,↓wpS.eq_5,↓wpS.eq_6,↓wpS.eq_7,↓wpS.eq_13,↓wpS.eq_14,↓wpS.eq_15,↓wpS.eq_16,↓s_whl,↓s_forS,↓s_forT,↓s_forR,↓s_forV,↓wpE.eq_1,↓wpE.eq_2,↓wpE.eq_3,↓wpE.eq_4,↓wpE.eq_5,↓wpE.eq_6,↓wpE.eq_7,↓wpE.eq_8,↓wpE.eq_9,↓wpE.eq_10,↓wpE.eq_11,↓wpE.eq_12,↓wpE.eq_13,↓wpE.eq_14,↓wpE.eq_15,↓wpE.eq_16,↓wpE.eq_17,↓wpE.eq_18,↓wpE.eq_19,↓wpE.eq_20,↓wpE.eq_21,↓wpE.eq_22,↓wpE.eq_24,↓wpE.eq_25,↓wpE.eq_27,↓wpE.eq_28,↓wpE.eq_30,↓wpE.eq_31,↓wpE.eq_32,↓e_meth,↓e_append,↓e_dget,↓wpEs,↓wpO,↓wpDs,↓wpAnd,↓wpOr,↓wpT.eq_1,↓wpT.eq_2,↓wpT.eq_3,↓wpT.eq_4,↓wpT.eq_5,↓wpT.eq_6,↓wpT.eq_7,↓t_meth,↓wpAllT,↓wpAnyT,↓retOf,↓rd_r,↓sa_r,↓bi_ii,↓bi_ss,↓bi_tt,↓bi_rr,↓bi_sub,↓bi_mul,↓bi_mulr,↓bi_div,↓bi_mod,↓ag_ii,↓ag_ss,↓ag_rr,↓ix_t,↓ix_l,↓ix_d,↓sl_s,↓sl_l,↓sl_x,↓bf_abs,↓bf_int,↓bf_chr,↓bf_str,↓bf_lens,↓bf_lenl,↓bf_ord,↓bf_max,↓bf_list,↓ap_l,↓po_l,↓po0_l,↓dg_l,↓si_l,↓si_i,↓si_s,↓si_t,↓cm_eq,↓cm_ne,↓cm_lt,↓cm_le,↓cm_les,↓cm_gt,↓cm_ge,↓cm_in,↓cm_notin,↓cm_is,↓eq_i,↓eq_s,↓eq_b,↓eq_t,↓eq_l,↓me_ls,↓me_li,↓me_sd,↓me_id,↓me_t,↓me_s,↓cp_l,↓sq_l,↓sq_t,↓it_l,↓it_t,↓it_s,↓me_r,↓is_l,↓is_d,↓all_iff,↓ex_bool,↓ex_str,↓ex_int,↓ex_ref,listM,strOf,intOf,putAll,lk,sset,ok_some,ok_none,Option.some.injEq,exists_eq_left',put_apply,reduceCtorEq,if_true,if_false,List.isEmpty,not_false_eq_true,not_true_eq_false,true_and,and_true,forall_const,true_imp_iff,false_imp_iff,Bool.true_eq_false,Bool.false_eq_true,List.length_cons,List.length_nil,Nat.reduceAdd,Nat.reduceLeDiff,Nat.reduceLT,forall_eq,forall_eq',b]
  exact ⟨fun e => absurd e (by omega),fun _ => h⟩
end
end
section
theorem at1_of {src l : Tx} {p : Nat} (h : src.drop p = l) (i : Nat) : at1 src (p + i) = (l.drop i).take 1 := by rw [at1,← h,List.drop_drop]
def gaps : List Tx := [[32],[],[10],[32,40,42,32,59,40,42,58,42,41,42,41,32],[9]]
def starts : Tx → Prop
  | [] => True
  | x :: r => 32 < x ∧ (x = 40 → r.take 1 ≠ [42])
section
variable {sp : Sp} (hC : Calls sp) {H : AH} {Q : Post} {src : Tx} {er sc : Addr} {p : Nat} (hs : H sc = some (scO src er p)) (hl : src.length ≤ 1000000)
include hC hs hl
theorem c_skip {g t : Tx} (hp : p ≤ 800000) (hg : g ∈ gaps) (ht : src.drop p = g ++ t) (hst : starts t) (h : Q .none (put H sc (scO src er (p + g.length)))) : sp .f_Scanner_skip [.ref sc] H Q := by
  refine hC _ _ [] _ _ rfl ?_
  simp (disch := with_unfolding_all (first | exact Yes.mk (id rfl) | assumption | exact pA_same | (refine pA_at ?_ ?_ <;> assumption))) only [b_Scanner_skip,Fn.body,Fn.params,rhoOf,List.append_nil,List.cons_append,List.nil_append,List.drop,Fn.dflts,List.length,↓wpSs_nil,↓wpSs_cons,↓sk_next,↓sk_ret,↓sk_cont,↓wpS.eq_1,↓wpS.eq_2,↓wpS.eq_3,↓wpS.eq_4,↓wpS.eq_5,↓wpS.eq_6,↓wpS.eq_7,↓wpS.eq_13,↓wpS.eq_14,↓wpS.eq_15,↓wpS.eq_16,↓s_whl,↓s_forS,↓s_forT,↓s_forR,↓s_forV,↓wpE.eq_1,↓wpE.eq_2,↓wpE.eq_3,↓wpE.eq_4,↓wpE.eq_5,↓wpE.eq_6,↓wpE.eq_7,↓wpE.eq_8,↓wpE.eq_9,↓wpE.eq_10,↓wpE.eq_11,↓wpE.eq_12,↓wpE.eq_13,↓wpE.eq_14,↓wpE.eq_15,↓wpE.eq_16,↓wpE.eq_17,↓wpE.eq_18,↓wpE.eq_19,↓wpE.eq_20,↓wpE.eq_21,↓wpE.eq_22,↓wpE.eq_24,↓wpE.eq_25,↓wpE.eq_27,↓wpE.eq_28,↓wpE.eq_30,↓wpE.eq_31,↓wpE.eq_32,↓e_meth,↓e_append,↓e_dget,↓wpEs,↓wpO,↓wpDs,↓wpAnd,↓wpOr,↓wpT.eq_1,↓wpT.eq_2,↓wpT.eq_3,↓wpT.eq_4,↓wpT.eq_5,↓wpT.eq_6,↓wpT.eq_7,↓t_meth,↓wpAllT,↓wpAnyT,↓retOf,↓rd_r,↓sa_r,↓bi_ii,↓bi_ss,↓bi_tt,↓bi_rr,↓bi_sub,↓bi_mul,↓bi_mulr,↓bi_div,↓bi_mod,↓ag_ii,↓ag_ss,↓ag_rr,↓ix_t,↓ix_l,↓ix_d,↓sl_s,↓sl_l,↓sl_x,↓bf_abs,↓bf_int,↓bf_chr,↓bf_str,↓bf_lens,↓bf_lenl,↓bf_ord,↓bf_max,↓bf_list,↓ap_l,↓po_l,↓po0_l,↓dg_l,↓si_l,↓si_i,↓si_s,↓si_t,↓cm_eq,↓cm_ne,↓cm_lt,↓cm_le,↓cm_les,↓cm_gt,↓cm_ge,↓cm_in,↓cm_notin,↓cm_is,↓eq_i,↓eq_s,↓eq_b,↓eq_t,↓eq_l,↓me_ls,↓me_li,↓me_sd,↓me_id,↓me_t,↓me_s,↓cp_l,↓sq_l,↓sq_t,↓it_l,↓it_t,↓it_s,↓me_r,↓is_l,↓is_d,↓all_iff,↓ex_bool,↓ex_str,↓ex_int,↓ex_ref,listM,strOf,intOf,putAll,lk,sset,ok_some,ok_none,Option.some.injEq,exists_eq_left',put_apply,reduceCtorEq,if_true,if_false,List.isEmpty,not_false_eq_true,not_true_eq_false,true_and,and_true,forall_const,true_imp_iff,false_imp_iff,Bool.true_eq_false,Bool.false_eq_true,List.length_cons,List.length_nil,Nat.reduceAdd,Nat.reduceLeDiff,Nat.reduceLT,forall_eq,forall_eq']
  intro P hP
  have a1 : ∀ i,at1 src (p + i) = ((g ++ t).drop i).take 1 := at1_of ht
  have hH : put H sc (scO src er (p + 0)) = H := put_self hs
  have fin : ∀ (i : Nat) (ρ : Rho),i = g.length → i ≤ 13 → ρ .n_self = some (.ref sc) → P ρ (put H sc (scO src er (p + i))) := by
    intro i ρ hi hi2 hr
    have e0 : at1 src (p + i) = t.take 1 := by rw [a1,hi,List.drop_left]
    have e1 : at1 src (p + i + 1) = (t.drop 1).take 1 := by rw [Nat.add_assoc,a1,hi,← List.drop_drop,List.drop_left]
    refine hP _ _ ?_
    cases t with
    | nil => exact skip_eof (p := p + i) hC put_same hl (by omega) e0 hr fun _ => hi ▸ h
    | cons x r => exact skip_end (p := p + i) hC put_same hl (by omega) e0 e1 hst.1 hst.2 hr fun _ => hi ▸ h
  have bl : ∀ {x : Nat} {ρ : Rho} (i : Nat),i ≤ 13 → at1 src (p + i) = [x] → x ≤ 32 → ρ .n_self = some (.ref sc) → (∀ ρ',ρ' .n_self = some (.ref sc) → P ρ' (put H sc (scO src er (p + (i + 1))))) →
      P ρ (put H sc (scO src er (p + i))) := fun i hi e hx hr k => hP _ _ (skip_blank (p := p + i) hC put_same hl (by omega) e hx hr (by rw [put_put]; exact k _ (by simp only [put_apply]; rw [if_neg (by decide)]; exact hr)))
  have r0 : (put (fun _ => none) N.n_self (V.ref sc) : Rho) .n_self = some (.ref sc) := put_same
  rw [← hH]
  simp only [gaps,List.mem_cons,List.not_mem_nil,or_false] at hg
  rcases hg with e | e | e | e | e <;> subst e
  · exact bl 0 (by omega) (a1 0) (by omega) r0 fun ρ hr => fin _ ρ rfl (by decide) hr
  · exact fin 0 _ rfl (by omega) r0
  · exact bl 0 (by omega) (a1 0) (by omega) r0 fun ρ hr => fin _ ρ rfl (by decide) hr
  · refine bl 0 (by omega) (a1 0) (by omega) r0 fun ρ hr => ?_
    refine hP _ _ (skip_remark (p := p + 1) hC put_same hl (by omega) (a1 1) (a1 2) hr ?_)
    refine c_remark (p := p + 1) hC put_same hl (by omega) (a1 3) (a1 4) (a1 5) (a1 6) (a1 7) (a1 8) (a1 9) (a1 10) (a1 11) ?_
    rw [put_put]
    exact bl 12 (by omega) (a1 12) (by omega) (by simp only [put_apply]; rw [if_neg (by decide)]; exact hr) fun ρ hr => fin _ ρ rfl (by decide) hr
  · exact bl 0 (by omega) (a1 0) (by omega) r0 fun ρ hr => fin _ ρ rfl (by decide) hr
end
end
section
theorem fresh_put {H : AH} {a b : Addr} {o : O} (h : put H a o b = none) : H b = none ∧ b ≠ a := by
  rw [put_apply] at h; split at h
  · cases h
  · exact ⟨h,by assumption⟩
def kwl : List Tx := [[65,82,82,65,89],[66,69,71,73,78],[66,89],[67,65,83,69],[67,79,78,83,84],[68,73,86],[68,79],[69,76,83,69],[69,76,83,73,70],[69,78,68],[70,79,82],[73,70],[73,77,80,79,82,84],[73,78],[73,83],[77,79,68],[77,79,68,85,76,69],[78,73,76],[79,70],[79,82],[80,79,73,78,84,69,82],[80,82,79,67,69,68,85,82,69],[82,69,67,79,82,68],[82,69,80,69,65,84],[82,69,84,85,82,78],[84,72,69,78],[84,79],[84,89,80,69],[85,78,84,73,76],[86,65,82],[87,72,73,76,69]]
theorem kws_l : listM strOf kws = some kwl := by decide +kernel
def wordB : List S := [.asg .n_end (E.bin .add (E.loc .n_end) (E.int 1))]
def wordT : E := (E.or [(E.call .f_is_letter [(E.slice (E.attr (E.loc .n_self) .n_source) (some (E.loc .n_end)) (some (E.bin .add (E.loc .n_end) (E.int 1))))]),(E.call .f_is_digit [(E.slice (E.attr (E.loc .n_self) .n_source) (some (E.loc .n_end)) (some (E.bin .add (E.loc .n_end) (E.int 1))))])])
section
variable {sp : Sp} (hC : Calls sp) {H : AH} {Q : Post} {src : Tx} {er sc : Addr} {p : Nat} (hs : H sc = some (scO src er p)) (hl : src.length ≤ 1000000)
include hC hs hl
theorem word_turn {i : Nat} {c : Tx} {ρ : Rho} {Q : SPost} {P : Rho → AH → Prop} (hp : i ≤ 900000) (h0 : at1 src i = c) (hr : ρ .n_self = some (.ref sc)) (he : ρ .n_end = some (.int i))
    (h : (isL c || isD c) = true → P (put ρ .n_end (.int (i + 1 : Nat))) H) (h' : (isL c || isD c) = false → Q .next ρ H) : turnW (testB sp wordT) (bodyB sp wordB) Q P ρ H := by
  simp only [turnW,testB,bodyB,wordT,wordB]
  have e0 : ∀ n m : Int,n = i → m = i + 1 → cut (some n) (some m) src = c := fun n m a b => by rw [cut_at src i (i + 1) _ _ a (by omega),show i + 1 - i = 1 by omega]; exact h0
  walk_at "Ore"
  refine ⟨by omega,by omega,by omega,?_⟩
  rw [e0 _ _ rfl rfl]
  refine c_is_letter hC ?_
  walk_at "Ore"
  refine ⟨fun e => h (by rw [e]; rfl),fun e => ⟨by omega,by omega,by omega,?_⟩⟩
  rw [e0 _ _ rfl rfl]
  refine c_is_digit hC ?_
  walk_at "Ore"
  exact ⟨fun e2 => h (by rw [e,e2]; rfl),fun e2 => h' (by rw [e,e2]; rfl)⟩
theorem c_word {sg t : Tx} (hp : p ≤ 800000) (hsg : sg.length ≤ 100) (ht : src.drop p = sg ++ t) (ha : ∀ x ∈ sg,(isL [x] || isD [x]) = true) (hn : (isL (t.take 1) || isD (t.take 1)) = false)
    (h : ∀ tk,H tk = none → Q (.ref tk) (put (put H sc (scO src er (p + sg.length : Nat))) tk (tokO (if sg ∈ kwl then sg else [105,100,101,110,116]) (.str (if sg ∈ kwl then [] else sg)) p))) : sp .f_Scanner_word [.ref sc,.int p] H Q := by
  refine hC _ _ [] _ _ rfl ?_
  simp (disch := with_unfolding_all (first | exact Yes.mk (id rfl) | assumption | exact pA_same | (refine pA_at ?_ ?_ <;> assumption))) only [b_Scanner_word,Fn.body,Fn.params,rhoOf,List.append_nil,List.cons_append,List.nil_append,List.drop,Fn.dflts,List.length,↓wpSs_nil,↓wpSs_cons,↓sk_next,↓sk_ret,↓sk_cont,↓wpS.eq_1,↓wpS.eq_2,↓wpS.eq_3,↓wpS.eq_4,↓wpS.eq_5,↓wpS.eq_6,↓wpS.eq_7,↓wpS.eq_13,↓wpS.eq_14,↓wpS.eq_15,↓wpS.eq_16,↓s_whl,↓s_forS,↓s_forT,↓s_forR,↓s_forV,↓wpE.eq_1,↓wpE.eq_2,↓wpE.eq_3,↓wpE.eq_4,↓wpE.eq_5,↓wpE.eq_6,↓wpE.eq_7,↓wpE.eq_8,↓wpE.eq_9,↓wpE.eq_10,↓wpE.eq_11,↓wpE.eq_12,↓wpE.eq_13,↓wpE.eq_14,↓wpE.eq_15,↓wpE.eq_16,↓wpE.eq_17,↓wpE.eq_18,↓wpE.eq_19,↓wpE.eq_20,↓wpE.eq_21,↓wpE.eq_22,↓wpE.eq_24,↓wpE.eq_25,↓wpE.eq_27,↓wpE.eq_28,↓wpE.eq_30,↓wpE.eq_31,↓wpE.eq_32,↓e_meth,↓e_append,↓e_dget,↓wpEs,↓wpO,↓wpDs,↓wpAnd,↓wpOr,↓wpT.eq_1,↓wpT.eq_2,↓wpT.eq_3,↓wpT.eq_4,↓wpT.eq_5,↓wpT.eq_6,↓wpT.eq_7,↓t_meth,↓wpAllT,↓wpAnyT,↓retOf,↓rd_r,↓sa_r,↓bi_ii,↓bi_ss,↓bi_tt,↓bi_rr,↓bi_sub,↓bi_mul,↓bi_mulr,↓bi_div,↓bi_mod,↓ag_ii,↓ag_ss,↓ag_rr,↓ix_t,↓ix_l,↓ix_d,↓sl_s,↓sl_l,↓sl_x,↓bf_abs,↓bf_int,↓bf_chr,↓bf_str,↓bf_lens,↓bf_lenl,↓bf_ord,↓bf_max,↓bf_list,↓ap_l,↓po_l,↓po0_l,↓dg_l,↓si_l,↓si_i,↓si_s,↓si_t,↓cm_eq,↓cm_ne,↓cm_lt,↓cm_le,↓cm_les,↓cm_gt,↓cm_ge,↓cm_in,↓cm_notin,↓cm_is,↓eq_i,↓eq_s,↓eq_b,↓eq_t,↓eq_l,↓me_ls,↓me_li,↓me_sd,↓me_id,↓me_t,↓me_s,↓cp_l,↓sq_l,↓sq_t,↓it_l,↓it_t,↓it_s,↓me_r,↓is_l,↓is_d,↓all_iff,↓ex_bool,↓ex_str,↓ex_int,↓ex_ref,listM,strOf,intOf,putAll,lk,sset,ok_some,ok_none,Option.some.injEq,exists_eq_left',put_apply,reduceCtorEq,if_true,if_false,List.isEmpty,not_false_eq_true,not_true_eq_false,true_and,and_true,forall_const,true_imp_iff,false_imp_iff,Bool.true_eq_false,Bool.false_eq_true,List.length_cons,List.length_nil,Nat.reduceAdd,Nat.reduceLeDiff,Nat.reduceLT,forall_eq,forall_eq']
  intro P hP
  have a1 : ∀ i,at1 src (p + i) = ((sg ++ t).drop i).take 1 := at1_of ht
  have ec : cut (some (p : Int)) (some ((p + sg.length : Nat) : Int)) src = sg := by rw [cut_at src p (p + sg.length) _ _ rfl rfl,ht,show p + sg.length - p = sg.length by omega,List.take_left]
  have main : ∀ k i (ρ : Rho),sg.length - i = k → i ≤ sg.length → ρ .n_self = some (.ref sc) → ρ .n_begun = some (.int p) → ρ .n_end = some (.int ((p + i : Nat) : Int)) → P ρ H := by
    intro k
    induction k with
    | zero =>
      intro i ρ hk hi hr hb he
      have hi : i = sg.length := by omega
      subst hi
      refine hP _ _ (word_turn (i := p + sg.length) hC hs hl (by omega) (a1 _) hr he (fun e => ?_) fun _ => ?_)
      · rw [List.drop_left,hn] at e; cases e
      · simp (disch := with_unfolding_all (first | exact Yes.mk (id rfl) | assumption | exact pA_same | (refine pA_at ?_ ?_ <;> assumption))) only [↓wpSs_nil,↓wpSs_cons,↓sk_next,↓sk_ret,↓sk_cont,↓wpS.eq_1,↓wpS.eq_2,↓wpS.eq_3,↓wpS.eq_4,↓wpS.eq_5,↓wpS.eq_6,↓wpS.eq_7,↓wpS.eq_13,↓wpS.eq_14,↓wpS.eq_15,↓wpS.eq_16,↓s_whl,↓s_forS,↓s_forT,↓s_forR,↓s_forV,↓wpE.eq_1,↓wpE.eq_2,↓wpE.eq_3,↓wpE.eq_4,↓wpE.eq_5,↓wpE.eq_6,↓wpE.eq_7,↓wpE.eq_8,↓wpE.eq_9,↓wpE.eq_10,↓wpE.eq_11,↓wpE.eq_12,↓wpE.eq_13,↓wpE.eq_14,↓wpE.eq_15,↓wpE.eq_16,↓wpE.eq_17,↓wpE.eq_18,↓wpE.eq_19,↓wpE.eq_20,↓wpE.eq_21,↓wpE.eq_22,↓wpE.eq_24,↓wpE.eq_25,↓wpE.eq_27,↓wpE.eq_28,↓wpE.eq_30,↓wpE.eq_31,↓wpE.eq_32,↓e_meth,↓e_append,↓e_dget,↓wpEs,↓wpO,↓wpDs,↓wpAnd,↓wpOr,↓wpT.eq_1,↓wpT.eq_2,↓wpT.eq_3,↓wpT.eq_4,↓wpT.eq_5,↓wpT.eq_6,↓wpT.eq_7,↓t_meth,↓wpAllT,↓wpAnyT,↓retOf,↓rd_r,↓sa_r,↓bi_ii,↓bi_ss,↓bi_tt,↓bi_rr,↓bi_sub,↓bi_mul,↓bi_mulr,↓bi_div,↓bi_mod,↓ag_ii,↓ag_ss,↓ag_rr,↓ix_t,↓ix_l,↓ix_d,↓sl_s,↓sl_l,↓sl_x,↓bf_abs,↓bf_int,↓bf_chr,↓bf_str,↓bf_lens,↓bf_lenl,↓bf_ord,↓bf_max,↓bf_list,↓ap_l,↓po_l,↓po0_l,↓dg_l,↓si_l,↓si_i,↓si_s,↓si_t,↓cm_eq,↓cm_ne,↓cm_lt,↓cm_le,↓cm_les,↓cm_gt,↓cm_ge,↓cm_in,↓cm_notin,↓cm_is,↓eq_i,↓eq_s,↓eq_b,↓eq_t,↓eq_l,↓me_ls,↓me_li,↓me_sd,↓me_id,↓me_t,↓me_s,↓cp_l,↓sq_l,↓sq_t,↓it_l,↓it_t,↓it_s,↓me_r,↓is_l,↓is_d,↓all_iff,↓ex_bool,↓ex_str,↓ex_int,↓ex_ref,listM,strOf,intOf,putAll,lk,sset,ok_some,ok_none,Option.some.injEq,exists_eq_left',put_apply,reduceCtorEq,if_true,if_false,List.isEmpty,not_false_eq_true,not_true_eq_false,true_and,and_true,forall_const,true_imp_iff,false_imp_iff,Bool.true_eq_false,Bool.false_eq_true,List.length_cons,List.length_nil,Nat.reduceAdd,Nat.reduceLeDiff,Nat.reduceLT,forall_eq,forall_eq',hr,hb,he]
        refine ⟨by omega,by omega,by omega,?_⟩
        rw [ec]
        refine ⟨kwl,kws_l,fun e => ?_,fun e => ?_⟩
        · intro tk htk
          obtain ⟨h1,h2⟩ := fresh_put htk
          refine c_Token hC htk ?_
          walk_at "O"
          have := h tk h1
          rwa [if_pos e,if_pos e] at this
        · intro tk htk
          obtain ⟨h1,h2⟩ := fresh_put htk
          refine c_Token hC htk ?_
          walk_at "O"
          have := h tk h1
          rwa [if_neg e,if_neg e] at this
    | succ k ih =>
      intro i ρ hk hi hr hb he
      obtain ⟨x,hx⟩ : ∃ x,sg[i]? = some x := ⟨_,List.getElem?_eq_getElem (by omega)⟩
      have e1 : ((sg ++ t).drop i).take 1 = [x] := by
        rw [List.drop_append_of_le_length (by omega),List.drop_eq_getElem_cons (by omega)]
        rw [List.getElem?_eq_getElem (by omega)] at hx; cases hx; rfl
      refine hP _ _ (word_turn (i := p + i) hC hs hl (by omega) ((a1 _).trans e1) hr he (fun _ => ?_) fun e => ?_)
      · exact ih (i + 1) _ (by omega) (by omega) (by simp only [put_apply,reduceCtorEq,if_false,hr]) (by simp only [put_apply,reduceCtorEq,if_false,hb]) (by simp only [put_apply,if_true,Nat.add_assoc])
      · rw [ha x (List.mem_of_getElem? hx)] at e; cases e
  exact main _ 0 _ rfl (Nat.zero_le _) rfl rfl rfl
end
end
section

structure It (xs : List V) (i : Int) (v : V) : Prop where
  h : itemAt xs i = some v
structure Bx (A : Prop) : Type where
structure Bq {α : Type} (Q : α) : Type where
def Brn (P A B : Prop) (_ : Bx A) (_ : Bx B) : Prop := (P → A) ∧ (¬ P → B)
def Call (sp : Sp) (f : Fn) (vs : List V) (H : AH) (Q : Post) (_ : Bq Q) : Prop := sp f vs H Q
def New (sp : Sp) (c : Cls) (vs : List V) (H : AH) (Q : Post) (_ : Bq Q) : Prop := ∀ a,H a = none → sp c.init (.ref a :: vs) (put H a (.inst c [])) fun v H2 => v = .none ∧ Q (.ref a) H2
def Alc (H : AH) (o : O) (Q : Post) (_ : Bq Q) : Prop := ∀ c,H c = none → Q (.ref c) (put H c o)
def TstV (v : V) (A B : Prop) (_ : Bx A) (_ : Bx B) : Prop := ∃ b,v = .bool b ∧ (b = true → A) ∧ (b = false → B)
def NotV (v : V) (H : AH) (Q : Post) (_ : Bq Q) : Prop := ∃ b,v = .bool b ∧ Q (.bool !b) H
def AndV (sp : Sp) (ρ : Rho) (v : V) (r : List E) (H : AH) (Q : Post) (_ : Bq Q) : Prop := ∃ b,v = .bool b ∧ (r.isEmpty = true → Q (.bool b) H) ∧ (r.isEmpty = false → (b = false → Q (.bool false) H) ∧ (b = true → wpAnd sp ρ r H Q))
def OrV (sp : Sp) (ρ : Rho) (v : V) (r : List E) (H : AH) (Q : Post) (_ : Bq Q) : Prop := ∃ b,v = .bool b ∧ (r.isEmpty = true → Q (.bool b) H) ∧ (r.isEmpty = false → (b = true → Q (.bool true) H) ∧ (b = false → wpOr sp ρ r H Q))
def Met (c : Cls) (n : N) (H : AH) (v : V) (F : Addr → Fn → Prop) (_ : Bq F) : Prop := ∃ a m f,v = .ref a ∧ H a = some (.inst c m) ∧ lk m n = none ∧ Cls.meth c n = some f ∧ F a f
def IntO (v : V) (H : AH) (Q : Option Int → AH → Prop) (_ : Bq Q) : Prop := ∃ i,v = .int i ∧ Q (some i) H
def Whl (sp : Sp) (t : E) (b : List S) (ρ : Rho) (H : AH) (Q : SPost) (_ : Bq Q) : Prop := whileP (testB sp t) (bodyB sp b) ρ H Q
def ForI (sp : Sp) (x : N) (b : List S) (ρ : Rho) (v : V) (H : AH) (Q : SPost) (_ : Bq Q) : Prop := ∃ vs,itemsOfV v H = some vs ∧ forL (srcB v vs) (asgB x) (bodyB sp b) vs ρ H Q
def ForT (sp : Sp) (xs : List N) (b : List S) (ρ : Rho) (v : V) (H : AH) (Q : SPost) (_ : Bq Q) : Prop := ∃ a vs,v = .ref a ∧ H a = some (.list vs) ∧ forL (srcL a vs) (setT xs) (bodyB sp b) vs ρ H Q
def ForR (sp : Sp) (x : N) (b : List S) (ρ : Rho) (v : V) (H : AH) (Q : SPost) (_ : Bq Q) : Prop := ∃ n : Int,v = .int n ∧ -1000 ≤ n ∧ n ≤ 1000000 ∧ forL (fun _ => True) (asgB x) (bodyB sp b) ((List.range n.toNat).map fun i : Nat => .int (i : Int)) ρ H Q
def ForV (sp : Sp) (x : N) (b : List S) (ρ : Rho) (v : V) (H : AH) (Q : SPost) (_ : Bq Q) : Prop := ∃ a vs,v = .ref a ∧ H a = some (.list vs) ∧ forL (srcL a vs) (asgB x) (bodyB sp b) vs.reverse ρ H Q
def SeqV (v : V) (n : Nat) (H : AH) (Q : List V → Prop) (_ : Bq Q) : Prop := ∃ ys,seqOf v H = some ys ∧ ys.length = n ∧ Q ys
def LstV (v : V) (H : AH) (A : Prop) (_ : Bx A) : Prop := (∃ a xs,v = .ref a ∧ H a = some (.list xs)) ∧ A
def DctV (v : V) (H : AH) (A : Prop) (_ : Bx A) : Prop := (∃ a m,v = .ref a ∧ H a = some (.sd m)) ∧ A
def Cnd (P A : Prop) (_ : Bx A) : Prop := P ∧ A
section
variable {sp : Sp} {ρ : Rho} {H : AH} {Q : Post} {v : V} {x : N} {a b e o k d : E} {es r : List E} {A B P : Prop} {T F : AH → Prop} {bA : Bx A} {bB : Bx B} {bQ : Bq Q}
theorem br_t (h : Yes P) : Brn P A B bA bB = A := propext ⟨fun q => q.1 h.h,fun q => ⟨fun _ => q,fun e => absurd h.h e⟩⟩
theorem br_f (h : Yes (¬ P)) : Brn P A B bA bB = B := propext ⟨fun q => q.2 h.h,fun q => ⟨fun e => absurd e h.h,fun _ => q⟩⟩
theorem br_T : Brn True A B bA bB = A := br_t ⟨trivial⟩
theorem br_F : Brn False A B bA bB = B := br_f ⟨id⟩
theorem br_n : Brn (¬ P) A B bA bB = Brn P B A bB bA := propext ⟨fun q => ⟨fun p => q.2 (fun n => n p),fun n => q.1 n⟩,fun q => ⟨fun n => q.2 n,fun n => Classical.byContradiction fun m => m (q.1 (Classical.byContradiction fun z => n z))⟩⟩
theorem Brn.mk {P A B : Prop} {bA : Bx A} {bB : Bx B} (h1 : P → A) (h2 : ¬ P → B) : Brn P A B bA bB := ⟨h1,h2⟩
theorem cn_t (h : Yes P) : Cnd P A bA = A := propext ⟨fun q => q.2,fun q => ⟨h.h,q⟩⟩
theorem e_loc (h : Yes (ρ x = some v)) : wpE sp ρ (.loc x) H Q = Q v H := by rw [wpE,h.h]; simp
theorem e_gint {n : Str} {i : Int} : wpE sp ρ (.gint n i) H Q = Q (.int i) H := by rw [wpE]
theorem e_int {i : Int} : wpE sp ρ (.int i) H Q = Q (.int i) H := by rw [wpE]
theorem e_str {i : Tx} : wpE sp ρ (.str i) H Q = Q (.str i) H := by rw [wpE]
theorem e_bool {i : Bool} : wpE sp ρ (.bool i) H Q = Q (.bool i) H := by rw [wpE]
theorem e_none : wpE sp ρ .none H Q = Q .none H := by rw [wpE]
theorem e_pow {i j : Nat} : wpE sp ρ (.pow i j) H Q = Q (.int ((i : Int) ^ j)) H := by rw [wpE]
theorem e_neg {i : Nat} : wpE sp ρ (.neg i) H Q = Q (.int (-(i : Int))) H := by rw [wpE]
theorem e_attr {n : N} : wpE sp ρ (.attr e n) H Q = wpE sp ρ e H fun v H1 => rdAttr v n H1 Q := by rw [wpE]
theorem e_bin {o : BOp} : wpE sp ρ (.bin o a b) H Q = wpE sp ρ a H fun x H1 => wpE sp ρ b H1 fun y H2 => binV o x y H2 Q := by rw [wpE]
theorem e_not : wpE sp ρ (.not a) H Q = wpE sp ρ a H fun v H1 => NotV v H1 Q ⟨⟩ := by rw [wpE]; rfl
theorem e_and : wpE sp ρ (.and es) H Q = wpAnd sp ρ es H Q := by rw [wpE]
theorem e_or : wpE sp ρ (.or es) H Q = wpOr sp ρ es H Q := by rw [wpE]
theorem e_cmp {o : COp} : wpE sp ρ (.cmp o a b) H Q = wpE sp ρ a H fun x H1 => wpE sp ρ b H1 fun y H2 => cmpP o x y H2 fun P => ∀ r : Bool,(r = true ↔ P) → Q (.bool r) H2 := by rw [wpE]
theorem e_ite {t : E} : wpE sp ρ (.ite t a b) H Q = wpT sp ρ t H (fun H1 => wpE sp ρ a H1 Q) (fun H1 => wpE sp ρ b H1 Q) := by rw [wpE]
theorem e_list : wpE sp ρ (.list es) H Q = wpEs sp ρ es H fun vs H1 => Alc H1 (.list vs) Q ⟨⟩ := by rw [wpE]; rfl
theorem e_tup : wpE sp ρ (.tup es) H Q = wpEs sp ρ es H fun vs H1 => Q (.tup vs) H1 := by rw [wpE]
theorem e_dict0 {k : DK} : wpE sp ρ (.dict0 k) H Q = Alc H k.o Q ⟨⟩ := by rw [wpE]; rfl
theorem e_d0td : wpE sp ρ (.dict0 .td) H Q = Alc H (.td 0) Q ⟨⟩ := e_dict0
theorem e_d0sd : wpE sp ρ (.dict0 .sd) H Q = Alc H (.sd []) Q ⟨⟩ := e_dict0
theorem e_d0id : wpE sp ρ (.dict0 .idt) H Q = Alc H (.idt []) Q ⟨⟩ := e_dict0
theorem e_idx : wpE sp ρ (.idx a b) H Q = wpE sp ρ a H fun x H1 => wpE sp ρ b H1 fun y H2 => idxV x y H2 Q := by rw [wpE]
theorem e_slice {lo hi : Option E} : wpE sp ρ (.slice a lo hi) H Q = wpE sp ρ a H fun x H1 => wpO sp ρ lo H1 fun l H2 => wpO sp ρ hi H2 fun h H3 => sliceV x l h H3 Q := by rw [wpE]
theorem e_call {f : Fn} : wpE sp ρ (.call f es) H Q = wpEs sp ρ es H fun vs H1 => Call sp f vs H1 Q ⟨⟩ := by rw [wpE]; rfl
theorem e_met {c : Cls} {n : N} : wpE sp ρ (.meth c o n es) H Q = wpE sp ρ o H fun v H1 => Met c n H1 v (fun a f => wpEs sp ρ es H1 fun vs H2 => Call sp f (.ref a :: vs) H2 Q ⟨⟩) ⟨⟩ := by rw [wpE]; rfl
theorem e_new {c : Cls} : wpE sp ρ (.new c es) H Q = wpEs sp ρ es H fun vs H1 => New sp c vs H1 Q ⟨⟩ := by rw [wpE]; rfl
theorem e_bi {c : Bi} : wpE sp ρ (.bi c es) H Q = wpEs sp ρ es H fun vs H1 => biV c vs H1 Q := by rw [wpE]
theorem e_app : wpE sp ρ (.append o k) H Q = wpE sp ρ o H fun v H1 => LstV v H1 (wpE sp ρ k H1 fun y H2 => appendV v y H2 Q) ⟨⟩ := by rw [wpE]; rfl
theorem e_pop : wpE sp ρ (.pop o) H Q = wpE sp ρ o H fun v H1 => popV v H1 Q := by rw [wpE]
theorem e_pop0 : wpE sp ρ (.pop0 o) H Q = wpE sp ρ o H fun v H1 => pop0V v H1 Q := by rw [wpE]
theorem e_dgt : wpE sp ρ (.dget o k d) H Q = wpE sp ρ o H fun v H1 => DctV v H1 (wpE sp ρ k H1 fun x H2 => wpE sp ρ d H2 fun y H3 => dgetV v x y H3 Q) ⟨⟩ := by rw [wpE]; rfl
theorem e_sfind : wpE sp ρ (.sfind o k) H Q = wpE sp ρ k H fun y H2 => sfindV y H2 Q := by rw [wpE]
theorem e_compA {y n : N} : wpE sp ρ (.compA o y n) H Q = wpE sp ρ o H fun v H1 => compV (attrOf H1 n) v H1 Q := by rw [wpE]
theorem e_compI {y : N} {n : Nat} : wpE sp ρ (.compI o y n) H Q = wpE sp ρ o H fun v H1 => compV (tupItem n) v H1 Q := by rw [wpE]
theorem es_n {Q : List V → AH → Prop} : wpEs sp ρ [] H Q = Q [] H := by rw [wpEs]
theorem es_c {Q : List V → AH → Prop} : wpEs sp ρ (e :: es) H Q = wpE sp ρ e H fun v H1 => wpEs sp ρ es H1 fun vs H2 => Q (v :: vs) H2 := by rw [wpEs]
theorem o_n {Q : Option Int → AH → Prop} : wpO sp ρ none H Q = Q none H := by rw [wpO]
theorem o_s {Q : Option Int → AH → Prop} : wpO sp ρ (some e) H Q = wpE sp ρ e H fun v H1 => IntO v H1 Q ⟨⟩ := by rw [wpO]; rfl
theorem io_i {Q : Option Int → AH → Prop} {i : Int} {bq : Bq Q} : IntO (.int i) H Q bq = Q (some i) H := propext ⟨fun ⟨j,e,h⟩ => by cases e; exact h,fun h => ⟨i,rfl,h⟩⟩
theorem nv_b {i : Bool} : NotV (.bool i) H Q bQ = Q (.bool !i) H := propext ⟨fun ⟨j,e,h⟩ => by cases e; exact h,fun h => ⟨i,rfl,h⟩⟩
theorem an_c : wpAnd sp ρ (e :: r) H Q = wpE sp ρ e H fun v H1 => AndV sp ρ v r H1 Q ⟨⟩ := by rw [wpAnd]; rfl
theorem or_c : wpOr sp ρ (e :: r) H Q = wpE sp ρ e H fun v H1 => OrV sp ρ v r H1 Q ⟨⟩ := by rw [wpOr]; rfl
theorem av_1 {i : Bool} : AndV sp ρ (.bool i) [] H Q bQ = Q (.bool i) H := propext ⟨fun ⟨j,e,h,_⟩ => by cases e; exact h rfl,fun h => ⟨i,rfl,fun _ => h,fun e => by cases e⟩⟩
theorem ov_1 {i : Bool} : OrV sp ρ (.bool i) [] H Q bQ = Q (.bool i) H := propext ⟨fun ⟨j,e,h,_⟩ => by cases e; exact h rfl,fun h => ⟨i,rfl,fun _ => h,fun e => by cases e⟩⟩
theorem av_2 {i : Bool} : AndV sp ρ (.bool i) (e :: r) H Q bQ = Brn (i = true) (wpAnd sp ρ (e :: r) H Q) (Q (.bool false) H) ⟨⟩ ⟨⟩ :=
  propext ⟨fun ⟨j,q,_,h⟩ => by cases q; exact ⟨(h rfl).2,fun n => (h rfl).1 (by simpa using n)⟩,fun h => ⟨i,rfl,(fun q => nomatch q),fun _ => ⟨fun n => h.2 (by rw [n]; exact Bool.false_ne_true),h.1⟩⟩⟩
theorem ov_2 {i : Bool} : OrV sp ρ (.bool i) (e :: r) H Q bQ = Brn (i = true) (Q (.bool true) H) (wpOr sp ρ (e :: r) H Q) ⟨⟩ ⟨⟩ :=
  propext ⟨fun ⟨j,q,_,h⟩ => by cases q; exact ⟨(h rfl).1,fun n => (h rfl).2 (by simpa using n)⟩,fun h => ⟨i,rfl,(fun q => nomatch q),fun _ => ⟨h.1,fun n => h.2 (by rw [n]; exact Bool.false_ne_true)⟩⟩⟩
theorem mt_r {f : Fn} {F : Addr → Fn → Prop} {bF : Bq F} {y : Addr} {c : Cls} {m : List (N × V)} {n : N} (h : H y = some (.inst c m)) (h1 : Yes (lk m n = none)) (h2 : Yes (Cls.meth c n = some f)) : Met c n H (.ref y) F bF = F y f :=
  propext ⟨fun ⟨a,m',f',e,e1,e2,e3,r⟩ => by cases e; rw [h2.h] at e3; cases e3; exact r,fun r => ⟨y,m,f,rfl,h,h1.h,h2.h,r⟩⟩
theorem tv_b {i : Bool} : TstV (.bool i) A B bA bB = Brn (i = true) A B bA bB :=
  propext ⟨fun ⟨j,q,h⟩ => by cases q; exact ⟨h.1,fun n => h.2 (by simpa using n)⟩,fun h => ⟨i,rfl,h.1,fun n => h.2 (by simp [n])⟩⟩
theorem lv_r {y : Addr} {xs : List V} (h : H y = some (.list xs)) : LstV (.ref y) H A bA = A := propext ⟨fun r => r.2,fun r => ⟨⟨y,xs,rfl,h⟩,r⟩⟩
theorem dv_r {y : Addr} {xs : List (Tx × V)} (h : H y = some (.sd xs)) : DctV (.ref y) H A bA = A := propext ⟨fun r => r.2,fun r => ⟨⟨y,xs,rfl,h⟩,r⟩⟩
theorem sv_r {y : Addr} {xs : List V} {n : Nat} {Q : List V → Prop} {bq : Bq Q} (h : H y = some (.list xs)) (h2 : Yes (xs.length = n)) : SeqV (.ref y) n H Q bq = Q xs :=
  propext ⟨fun ⟨ys,e,_,q⟩ => by rw [seqOf,h] at e; cases e; exact q,fun q => ⟨xs,by rw [seqOf,h],h2.h,q⟩⟩
theorem sv_t {xs : List V} {n : Nat} {Q : List V → Prop} {bq : Bq Q} (h2 : Yes (xs.length = n)) : SeqV (.tup xs) n H Q bq = Q xs :=
  propext ⟨fun ⟨ys,e,_,q⟩ => by cases e; exact q,fun q => ⟨xs,rfl,h2.h,q⟩⟩
theorem t_not : wpT sp ρ (.not a) H T F = wpT sp ρ a H F T := by rw [wpT]
theorem t_and : wpT sp ρ (.and es) H T F = wpAllT sp ρ es H T F := by rw [wpT]
theorem t_or : wpT sp ρ (.or es) H T F = wpAnyT sp ρ es H T F := by rw [wpT]
theorem t_cmp {o : COp} : wpT sp ρ (.cmp o a b) H T F = wpE sp ρ a H fun x H1 => wpE sp ρ b H1 fun y H2 => cmpP o x y H2 fun P => Brn P (T H2) (F H2) ⟨⟩ ⟨⟩ := by rw [wpT]; rfl
theorem t_loc {i : Bool} (h : Yes (ρ x = some (.bool i))) : wpT sp ρ (.loc x) H T F = Brn (i = true) (T H) (F H) ⟨⟩ ⟨⟩ := by
  rw [wpT,h.h]; exact propext ⟨fun ⟨j,q,p⟩ => by cases q; exact ⟨p.1,fun n => p.2 (by simpa using n)⟩,fun p => ⟨i,rfl,p.1,fun n => p.2 (by simp [n])⟩⟩
theorem t_bool {i : Bool} : wpT sp ρ (.bool i) H T F = Brn (i = true) (T H) (F H) ⟨⟩ ⟨⟩ := by
  rw [wpT]; exact propext ⟨fun p => ⟨p.1,fun n => p.2 (by simpa using n)⟩,fun p => ⟨p.1,fun n => p.2 (by simp [n])⟩⟩
theorem t_call {f : Fn} : wpT sp ρ (.call f es) H T F = wpEs sp ρ es H fun vs H1 => Call sp f vs H1 (fun v H1 => TstV v (T H1) (F H1) ⟨⟩ ⟨⟩) ⟨⟩ := by rw [wpT]; rfl
theorem t_met {c : Cls} {n : N} : wpT sp ρ (.meth c o n es) H T F = wpE sp ρ o H fun v H1 => Met c n H1 v (fun a f => wpEs sp ρ es H1 fun vs H2 => Call sp f (.ref a :: vs) H2 (fun v H1 => TstV v (T H1) (F H1) ⟨⟩ ⟨⟩) ⟨⟩) ⟨⟩ := by rw [wpT]; rfl
theorem al_n : wpAllT sp ρ [] H T F = T H := by rw [wpAllT]
theorem al_c : wpAllT sp ρ (e :: es) H T F = wpT sp ρ e H (fun H1 => wpAllT sp ρ es H1 T F) F := by rw [wpAllT]
theorem ay_n : wpAnyT sp ρ [] H T F = F H := by rw [wpAnyT]
theorem ay_c : wpAnyT sp ρ (e :: es) H T F = wpT sp ρ e H T (fun H1 => wpAnyT sp ρ es H1 T F) := by rw [wpAnyT]
theorem all_T (F : Bool → Prop) : (∀ r : Bool,(r = true ↔ True) → F r) = F true := propext ⟨fun h => h _ (by simp),fun h r e => by rw [show r = true by simpa using e]; exact h⟩
theorem all_F (F : Bool → Prop) : (∀ r : Bool,(r = true ↔ False) → F r) = F false := propext ⟨fun h => h _ (by simp),fun h r e => by rw [show r = false by simpa using e]; exact h⟩
theorem all_P (P : Prop) [Decidable P] (F : Bool → Prop) : (∀ r : Bool,(r = true ↔ P) → F r) = F (decide P) := propext (all_iff P F)
end
section
variable {sp : Sp} {ρ : Rho} {H : AH} {Q : SPost} {x n : N} {xs : List N} {e o i : E} {b c : List S} {t : E}
theorem p_asg : wpS sp (.asg x e) ρ H Q = wpE sp ρ e H fun v H1 => Q .next (put ρ x v) H1 := by rw [wpS]
theorem p_unpk : wpS sp (.unpk xs e) ρ H Q = wpE sp ρ e H fun v H1 => SeqV v xs.length H1 (fun ys => Q .next (putAll ρ xs ys) H1) ⟨⟩ := by rw [wpS]; rfl
theorem p_sattr : wpS sp (.sattr o n e) ρ H Q = wpE sp ρ e H fun x H1 => wpE sp ρ o H1 fun v H2 => setAttrV v n x H2 fun H3 => Q .next ρ H3 := by rw [wpS]
theorem p_sidx : wpS sp (.sidx o i e) ρ H Q = wpE sp ρ e H fun x H1 => wpE sp ρ o H1 fun v H2 => wpE sp ρ i H2 fun k H3 => setItemV v k x H3 fun H4 => Q .next ρ H4 := by rw [wpS]
theorem p_aug {v : V} (h : Yes (ρ x = some v)) : wpS sp (.aug x e) ρ H Q = wpE sp ρ e H fun y H1 => augV v y H1 fun r H2 => Q .next (put ρ x r) H2 := by rw [wpS,h.h]; simp
theorem p_augattr : wpS sp (.augattr o n e) ρ H Q = wpE sp ρ o H fun v H1 => rdAttr v n H1 fun x H2 => wpE sp ρ e H2 fun y H3 => augV x y H3 fun r H4 => setAttrV v n r H4 fun H5 => Q .next ρ H5 := by rw [wpS]
theorem p_ifs : wpS sp (.ifs t b c) ρ H Q = wpT sp ρ t H (fun H1 => wpSs sp b ρ H1 Q) (fun H1 => wpSs sp c ρ H1 Q) := by rw [wpS]
theorem p_whl : wpS sp (.whl t b) ρ H Q = Whl sp t b ρ H Q ⟨⟩ := by rw [wpS]; rfl
theorem p_forS : wpS sp (.forS x e b) ρ H Q = wpE sp ρ e H fun v H1 => ForI sp x b ρ v H1 Q ⟨⟩ := by rw [wpS]; rfl
theorem p_forT : wpS sp (.forT xs e b) ρ H Q = wpE sp ρ e H fun v H1 => ForT sp xs b ρ v H1 Q ⟨⟩ := by rw [wpS]; rfl
theorem p_forR : wpS sp (.forR x e b) ρ H Q = wpE sp ρ e H fun v H1 => ForR sp x b ρ v H1 Q ⟨⟩ := by rw [wpS]; rfl
theorem p_forV : wpS sp (.forV x e b) ρ H Q = wpE sp ρ e H fun v H1 => ForV sp x b ρ v H1 Q ⟨⟩ := by rw [wpS]; rfl
theorem p_ret : wpS sp (.ret e) ρ H Q = wpE sp ρ e H fun v H1 => Q (.ret v) ρ H1 := by rw [wpS]
theorem p_retn : wpS sp .retn ρ H Q = Q (.ret .none) ρ H := by rw [wpS]
theorem p_cont : wpS sp .cont ρ H Q = Q .cont ρ H := by rw [wpS]
theorem p_expr : wpS sp (.expr e) ρ H Q = wpE sp ρ e H fun _ H1 => Q .next ρ H1 := by rw [wpS]
end
section
variable {H : AH} {Q : Post} {a b : Addr} {i j : Int} {s t : Tx} {xs ys l : List V} {x y v : V} {K : Prop → Prop} {QH : AH → Prop} {lo hi : Option Int}
theorem xi_ss : binV .add (.str s) (.str t) H Q = Cnd (s.length + t.length ≤ 10000000) (Q (.str (s ++ t)) H) ⟨⟩ := rfl
theorem xi_tt : binV .add (.tup xs) (.tup ys) H Q = Cnd (xs.length + ys.length ≤ 1000000) (Q (.tup (xs ++ ys)) H) ⟨⟩ := rfl
theorem xi_rr (h : H a = some (.list xs)) (h2 : H b = some (.list ys)) : binV .add (.ref a) (.ref b) H Q = Cnd (xs.length + ys.length ≤ 1000000) (Alc H (.list (xs ++ ys)) Q ⟨⟩) ⟨⟩ := by simp only [binV,h,h2]; rfl
theorem xi_mul : binV .mul (.int i) (.int j) H Q = Cnd (small i ∧ small j) (Q (.int (i * j)) H) ⟨⟩ := propext ⟨fun h => ⟨⟨h.1,h.2.1⟩,h.2.2⟩,fun h => ⟨h.1.1,h.1.2,h.2⟩⟩
theorem xi_mulr (h : H a = some (.list [x])) : binV .mul (.ref a) (.int j) H Q = Cnd (0 ≤ j ∧ j ≤ 1000) (Alc H (.list (List.replicate j.toNat x)) Q ⟨⟩) ⟨⟩ := by simp only [binV,h]; exact propext ⟨fun h => ⟨⟨h.1,h.2.1⟩,h.2.2⟩,fun h => ⟨h.1.1,h.1.2,h.2⟩⟩
theorem xi_div : binV .fdiv (.int i) (.int j) H Q = Cnd (0 < j ∧ j ≤ 1000000) (Q (.int (i / j)) H) ⟨⟩ := propext ⟨fun h => ⟨⟨h.1,h.2.1⟩,h.2.2⟩,fun h => ⟨h.1.1,h.1.2,h.2⟩⟩
theorem xi_mod : binV .mod (.int i) (.int j) H Q = Cnd (0 < j) (Q (.int (i % j)) H) ⟨⟩ := rfl
theorem xg_ss : augV (.str s) (.str t) H Q = Cnd (s.length + t.length ≤ 10000000) (Q (.str (s ++ t)) H) ⟨⟩ := rfl
theorem xg_rr (h : H a = some (.list xs)) (h2 : H b = some (.list ys)) : augV (.ref a) (.ref b) H Q = Cnd (a ≠ b ∧ xs.length + ys.length ≤ 1000000) (Q (.ref a) (put H a (.list (xs ++ ys)))) ⟨⟩ := by
  simp only [augV,h,h2]; exact propext ⟨fun h => ⟨⟨h.1,h.2.1⟩,h.2.2⟩,fun h => ⟨h.1.1,h.1.2,h.2⟩⟩
theorem xx_t (h : It xs i v) : idxV (.tup xs) (.int i) H Q = Q v H := by rw [idxV,h.h]; simp
theorem xx_l (h : H a = some (.list xs)) (h2 : It xs i v) : idxV (.ref a) (.int i) H Q = Q v H := by simp only [idxV,h,h2.h]; simp
theorem xx_d {m : List (Tx × V)} (h : H a = some (.sd m)) (h2 : Yes (lk m s = some v)) : idxV (.ref a) (.str s) H Q = Q v H := by simp only [idxV,h,h2.h]; simp
theorem xl_s : sliceV (.str s) lo hi H Q = Cnd (okB lo ∧ okB hi ∧ s.length ≤ 10000000) (Q (.str (cut lo hi s)) H) ⟨⟩ := propext ⟨fun h => ⟨⟨h.1,h.2.1,h.2.2.1⟩,h.2.2.2⟩,fun h => ⟨h.1.1,h.1.2.1,h.1.2.2,h.2⟩⟩
theorem xl_l (h : H a = some (.list xs)) : sliceV (.ref a) lo hi H Q = Cnd (okB lo ∧ okB hi ∧ xs.length ≤ 1000000) (Alc H (.list (cut lo hi xs)) Q ⟨⟩) ⟨⟩ := by
  simp only [sliceV,h]; exact propext ⟨fun h => ⟨⟨h.1,h.2.1,h.2.2.1⟩,h.2.2.2⟩,fun h => ⟨h.1.1,h.1.2.1,h.1.2.2,h.2⟩⟩
theorem xl_x {ns : List Int} (h : H a = some (.ext ns)) : sliceV (.ref a) lo hi H Q = Cnd (okB lo ∧ okB hi ∧ ns.length ≤ 1000000) (Alc H (.list ((cut lo hi ns).map V.int)) Q ⟨⟩) ⟨⟩ := by
  simp only [sliceV,h]; exact propext ⟨fun h => ⟨⟨h.1,h.2.1,h.2.2.1⟩,h.2.2.2⟩,fun h => ⟨h.1.1,h.1.2.1,h.1.2.2,h.2⟩⟩
theorem xf_chr : biV .b_chr [.int i] H Q = Cnd (0 ≤ i ∧ i ≤ 127) (Q (.str [i.toNat]) H) ⟨⟩ := propext ⟨fun h => ⟨⟨h.1,h.2.1⟩,h.2.2⟩,fun h => ⟨h.1.1,h.1.2,h.2⟩⟩
theorem xf_str : biV .b_str [.int i] H Q = Cnd (0 ≤ i ∧ i ≤ 9) (Q (.str [48 + i.toNat]) H) ⟨⟩ := propext ⟨fun h => ⟨⟨h.1,h.2.1⟩,h.2.2⟩,fun h => ⟨h.1.1,h.1.2,h.2⟩⟩
theorem xf_lens : biV .b_len [.str s] H Q = Cnd (s.length ≤ 10000000) (Q (.int s.length) H) ⟨⟩ := rfl
theorem xf_lenl (h : H a = some (.list xs)) : biV .b_len [.ref a] H Q = Cnd (xs.length ≤ 10000000) (Q (.int xs.length) H) ⟨⟩ := by simp only [biV,h]; rfl
theorem xf_list (h : H a = some (.list xs)) : biV .b_list [.ref a] H Q = Cnd (xs.length ≤ 1000000) (Alc H (.list xs) Q ⟨⟩) ⟨⟩ := by simp only [biV,h]; rfl
theorem xa_l (h : H a = some (.list xs)) : appendV (.ref a) x H Q = Cnd (xs.length < 1000000) (Q .none (put H a (.list (xs ++ [x])))) ⟨⟩ := by simp only [appendV,h]; rfl
theorem xp_l (h : H a = some (.list xs)) (h2 : Yes (xs.getLast? = some v)) : popV (.ref a) H Q = Cnd (xs.length ≤ 1000000) (Q v (put H a (.list xs.dropLast))) ⟨⟩ := by simp only [popV,h,h2.h]; simp [Cnd]
theorem xp0_l (h : H a = some (.list (v :: xs))) : pop0V (.ref a) H Q = Cnd (xs.length ≤ 1000000) (Q v (put H a (.list xs))) ⟨⟩ := by simp only [pop0V,h]; rfl
theorem xs_l (h : H a = some (.list xs)) : setItemV (.ref a) (.int i) x H QH = Cnd (0 ≤ i ∧ i ≤ 1000000 ∧ i.toNat < xs.length) (QH (put H a (.list (xs.set i.toNat x)))) ⟨⟩ := by
  simp only [setItemV,h]; exact propext ⟨fun h => ⟨⟨h.1,h.2.1,h.2.2.1⟩,h.2.2.2⟩,fun h => ⟨h.1.1,h.1.2.1,h.1.2.2,h.2⟩⟩
theorem xs_i {m : List (Int × V)} (h : H a = some (.idt m)) : setItemV (.ref a) (.int i) x H QH = Cnd (m.length ≤ 1000000) (QH (put H a (.idt (sset m i x)))) ⟨⟩ := by simp only [setItemV,h]; rfl
theorem xs_s {m : List (Tx × V)} (h : H a = some (.sd m)) : setItemV (.ref a) (.str s) x H QH = Cnd (m.length ≤ 1000000) (QH (put H a (.sd (sset m s x)))) ⟨⟩ := by simp only [setItemV,h]; rfl
theorem xs_t {k : Nat} (h : H a = some (.td k)) : setItemV (.ref a) (.tup [.str s,.str t]) x H QH = Cnd (k ≤ 1000000) (QH (put H a (.td (k + 1)))) ⟨⟩ := by
  simp only [setItemV,h]; exact propext ⟨fun h => h.2,fun h => ⟨⟨s,t,rfl⟩,h⟩⟩
theorem xc_nn : cmpP .is_ .none .none H K = K True := by simp [cmpP]
theorem xc_nr : cmpP .is_ (.ref a) .none H K = K False := by simp [cmpP]
theorem xe_t : eqP H (.tup xs) (.tup ys) K = Cnd (comparable xs ys) (K (xs = ys)) ⟨⟩ := rfl
theorem xe_l (h : H a = some (.list xs)) (h2 : H b = some (.list ys)) : eqP H (.ref a) (.ref b) K = Cnd (comparable xs ys) (K (xs = ys)) ⟨⟩ := by simp only [eqP,h,h2]; rfl
theorem xm_ls {m : List Tx} (h : H a = some (.list xs)) (h2 : Yes (listM strOf xs = some m)) : memP H (.str s) (.ref a) K = K (s ∈ m) := by simp only [memP,h,h2.h]; simp
theorem xm_li {m : List Int} (h : H a = some (.list xs)) (h2 : Yes (listM intOf xs = some m)) : memP H (.int i) (.ref a) K = K (i ∈ m) := by simp only [memP,h,h2.h]; simp
theorem xm_t {m : List Tx} (h2 : Yes (listM strOf xs = some m)) : memP H (.str s) (.tup xs) K = K (s ∈ m) := by simp only [memP,h2.h]; simp
theorem xcp_l {f : V → Option V} (h : H a = some (.list xs)) (h2 : Yes (listM f xs = some ys)) : compV f (.ref a) H Q = Cnd (xs.length ≤ 1000000) (Alc H (.list ys) Q ⟨⟩) ⟨⟩ := by simp only [compV,h,h2.h]; simp [Cnd,Alc]
theorem xd_l {m : List (Tx × V)} (h : H a = some (.sd m)) : dgetV (.ref a) (.str s) y H Q = Q ((lk m s).getD y) H := by simp only [dgetV,h]
end
theorem xm_sd {m : List (Tx × V)} {H : AH} {a : Addr} {s : Tx} {K : Prop → Prop} (h : H a = some (.sd m)) : memP H (.str s) (.ref a) K = K ((lk m s).isSome = true) := by simp only [memP,h]
theorem xm_id {m : List (Int × V)} {H : AH} {a : Addr} {i : Int} {K : Prop → Prop} (h : H a = some (.idt m)) : memP H (.int i) (.ref a) K = K ((lk m i).isSome = true) := by simp only [memP,h]
def FL (src : AH → Prop) (set : V → Rho → Option Rho) (B : Rho → AH → SPost → Prop) (vs : List V) (ρ : Rho) (H : AH) (Q : SPost) (_ : Bq Q) : Prop := forL src set B vs ρ H Q
section
variable {sp : Sp} {ρ : Rho} {H : AH} {Q : SPost} {x : N} {xs : List N} {b : List S} {bQ : Bq Q} {a : Addr} {vs : List V}
theorem fi_l (h : H a = some (.list vs)) : ForI sp x b ρ (.ref a) H Q bQ = FL (srcB (.ref a) vs) (asgB x) (bodyB sp b) vs ρ H Q ⟨⟩ :=
  propext ⟨fun ⟨ys,e,q⟩ => by rw [itemsOfV,h] at e; cases e; exact q,fun q => ⟨vs,by rw [itemsOfV,h],q⟩⟩
theorem fi_t : ForI sp x b ρ (.tup vs) H Q bQ = FL (srcB (.tup vs) vs) (asgB x) (bodyB sp b) vs ρ H Q ⟨⟩ :=
  propext ⟨fun ⟨ys,e,q⟩ => by cases e; exact q,fun q => ⟨vs,rfl,q⟩⟩
theorem ft_l (h : H a = some (.list vs)) : ForT sp xs b ρ (.ref a) H Q bQ = FL (srcL a vs) (setT xs) (bodyB sp b) vs ρ H Q ⟨⟩ :=
  propext ⟨fun ⟨c,ys,e,e2,q⟩ => by cases e; rw [h] at e2; cases e2; exact q,fun q => ⟨a,vs,rfl,h,q⟩⟩
theorem fv_l (h : H a = some (.list vs)) : ForV sp x b ρ (.ref a) H Q bQ = FL (srcL a vs) (asgB x) (bodyB sp b) vs.reverse ρ H Q ⟨⟩ :=
  propext ⟨fun ⟨c,ys,e,e2,q⟩ => by cases e; rw [h] at e2; cases e2; exact q,fun q => ⟨a,vs,rfl,h,q⟩⟩
theorem fr_i {n : Int} : ForR sp x b ρ (.int n) H Q bQ = Cnd (-1000 ≤ n ∧ n ≤ 1000000) (FL (fun _ => True) (asgB x) (bodyB sp b) ((List.range n.toNat).map fun i : Nat => .int (i : Int)) ρ H Q ⟨⟩) ⟨⟩ :=
  propext ⟨fun ⟨m,e,e2,e3,q⟩ => by cases e; exact ⟨⟨e2,e3⟩,q⟩,fun q => ⟨n,rfl,q.1.1,q.1.2,q.2⟩⟩
end
section
variable {src : AH → Prop} {set : V → Rho → Option Rho} {B : Rho → AH → SPost → Prop} {vs : List V} {v : V} {ρ ρ1 : Rho} {H : AH} {Q : SPost} {bQ : Bq Q}
theorem fl_nil (h : src H) (q : Q .next ρ H) : FL src set B [] ρ H Q bQ := ⟨h,q⟩
def flK (src : AH → Prop) (set : V → Rho → Option Rho) (B : Rho → AH → SPost → Prop) (vs : List V) (Q : SPost) : SPost := fun fl ρ2 H2 => match fl with
    | .ret w => Q (.ret w) ρ2 H2
    | _ => FL src set B vs ρ2 H2 Q ⟨⟩
theorem fl_cons (h : src H) (e : set v ρ = some ρ1) (q : B ρ1 H (flK src set B vs Q)) : FL src set B (v :: vs) ρ H Q bQ := ⟨h,ρ1,e,q⟩
theorem fk_n : flK src set B vs Q .next ρ H = FL src set B vs ρ H Q ⟨⟩ := rfl
theorem fk_c : flK src set B vs Q .cont ρ H = FL src set B vs ρ H Q ⟨⟩ := rfl
theorem fk_r : flK src set B vs Q (.ret v) ρ H = Q (.ret v) ρ H := rfl
end
def whK (Q : SPost) (P : Rho → AH → Prop) : SPost := fun fl ρ2 H2 => match fl with
    | .ret w => Q (.ret w) ρ2 H2
    | _ => P ρ2 H2
section
variable {Q : SPost} {P : Rho → AH → Prop} {ρ : Rho} {H : AH} {v : V} {sp : Sp} {t : E} {b : List S} {bQ : Bq Q}
theorem wk_n : whK Q P .next ρ H = P ρ H := rfl
theorem wk_c : whK Q P .cont ρ H = P ρ H := rfl
theorem wk_r : whK Q P (.ret v) ρ H = Q (.ret v) ρ H := rfl
theorem turn_eq : turnW (testB sp t) (bodyB sp b) Q P ρ H = wpT sp ρ t H (fun H1 => wpSs sp b ρ H1 (whK Q P)) (fun H1 => Q .next ρ H1) := rfl
theorem whl_in (h : ∀ P : Rho → AH → Prop,(∀ ρ H,wpT sp ρ t H (fun H1 => wpSs sp b ρ H1 (whK Q P)) (fun H1 => Q .next ρ H1) → P ρ H) → P ρ H) : Whl sp t b ρ H Q bQ := h
theorem body_eq : bodyB sp b ρ H Q = wpSs sp b ρ H Q := rfl
theorem ret_r : retOf (.ret v) = v := rfl
theorem ret_n : retOf .next = .none := rfl
end
end
local macro_rules | `(tactic| walk_at "Y") => `(tactic| with_unfolding_all (first | exact Yes.mk (by with_reducible assumption) | with_reducible assumption | exact It.mk (id rfl) | exact Yes.mk (id rfl) | exact Yes.mk (of_decide_eq_true (id rfl)) | exact Yes.mk (by show (_ : Option V) = _; assumption) | with_reducible exact pA_same | ((with_reducible refine pA_at ?_ ?_) <;> repeat' (first | with_reducible assumption | with_reducible exact pA_same | with_reducible refine pA_at ?_ ?_ | fail)) | fail))
local macro_rules | `(tactic| walk_at "X") => `(tactic| (simp (disch := walk_at "Y") only [↓wpSs_nil,↓wpSs_cons,↓sk_next,↓sk_ret,↓sk_cont,↓br_t,↓br_f,↓br_T,↓br_F,↓br_n,↓cn_t,↓e_loc,↓e_gint,↓e_int,↓e_str,↓e_bool,↓e_none,↓e_pow,↓e_neg,↓e_attr,↓e_bin,↓e_not,↓e_and,↓e_or,↓e_cmp,↓e_ite,↓e_list,↓e_tup,↓e_d0td,↓e_d0sd,↓e_d0id,↓e_idx,↓e_slice,↓e_call,↓e_met,↓e_new,↓e_bi,↓e_app,↓e_pop,↓e_pop0,↓e_dgt,↓e_sfind,↓e_compA,↓e_compI,↓es_n,↓es_c,↓o_n,↓o_s,↓io_i,↓nv_b,↓an_c,↓or_c,↓av_1,↓av_2,↓ov_1,↓ov_2,↓mt_r,↓tv_b,↓lv_r,↓dv_r,↓sv_r,↓sv_t,↓t_not,↓t_and,↓t_or,↓t_cmp,↓t_loc,↓t_bool,↓t_call,↓t_met,↓al_n,↓al_c,↓ay_n,↓ay_c,↓all_T,↓all_F,↓all_P,↓p_asg,↓p_unpk,↓p_sattr,↓p_sidx,↓p_aug,↓p_augattr,↓p_ifs,↓p_whl,↓p_forS,↓p_forT,↓p_forR,↓p_forV,↓p_ret,↓p_retn,↓p_cont,↓p_expr,↓rd_r,↓sa_r,↓bi_ii,↓xi_ss,↓xi_tt,↓xi_rr,↓bi_sub,↓xi_mul,↓xi_mulr,↓xi_div,↓xi_mod,↓ag_ii,↓xg_ss,↓xg_rr,↓xx_t,↓xx_l,↓xx_d,↓xl_s,↓xl_l,↓xl_x,↓bf_abs,↓bf_int,↓xf_chr,↓xf_str,↓xf_lens,↓xf_lenl,↓bf_ord,↓bf_max,↓xf_list,↓xa_l,↓xp_l,↓xp0_l,↓xd_l,↓xs_l,↓xs_i,↓xs_s,↓xs_t,↓cm_eq,↓cm_ne,↓cm_lt,↓cm_le,↓cm_les,↓cm_gt,↓cm_ge,↓cm_in,↓cm_notin,↓xc_nn,↓xc_nr,↓eq_i,↓eq_s,↓eq_b,↓xe_t,↓xe_l,↓xm_ls,↓xm_li,↓xm_sd,↓xm_id,↓xm_t,↓me_s,↓xcp_l,↓fi_l,↓fi_t,↓ft_l,↓fv_l,↓fr_i,↓fk_n,↓fk_c,↓fk_r,↓wk_n,↓wk_c,↓wk_r,↓body_eq,↓ret_r,↓ret_n,sset,reduceCtorEq,if_true,if_false]))
local macro_rules | `(tactic| walk_at "Z") => do
  let z := Lean.mkIdent `z
  `(tactic| (simp (disch := walk_at "Y") only [↓wpSs_nil,↓wpSs_cons,↓sk_next,↓sk_ret,↓sk_cont,↓br_t,↓br_f,↓br_T,↓br_F,↓br_n,↓cn_t,↓e_loc,↓e_gint,↓e_int,↓e_str,↓e_bool,↓e_none,↓e_pow,↓e_neg,↓e_attr,↓e_bin,↓e_not,↓e_and,↓e_or,↓e_cmp,↓e_ite,↓e_list,↓e_tup,↓e_d0td,↓e_d0sd,↓e_d0id,↓e_idx,↓e_slice,↓e_call,↓e_met,↓e_new,↓e_bi,↓e_app,↓e_pop,↓e_pop0,↓e_dgt,↓e_sfind,↓e_compA,↓e_compI,↓es_n,↓es_c,↓o_n,↓o_s,↓io_i,↓nv_b,↓an_c,↓or_c,↓av_1,↓av_2,↓ov_1,↓ov_2,↓mt_r,↓tv_b,↓lv_r,↓dv_r,↓sv_r,↓sv_t,↓t_not,↓t_and,↓t_or,↓t_cmp,↓t_loc,↓t_bool,↓t_call,↓t_met,↓al_n,↓al_c,↓ay_n,↓ay_c,↓all_T,↓all_F,↓all_P,↓p_asg,↓p_unpk,↓p_sattr,↓p_sidx,↓p_aug,↓p_augattr,↓p_ifs,↓p_whl,↓p_forS,↓p_forT,↓p_forR,↓p_forV,↓p_ret,↓p_retn,↓p_cont,↓p_expr,↓rd_r,↓sa_r,↓bi_ii,↓xi_ss,↓xi_tt,↓xi_rr,↓bi_sub,↓xi_mul,↓xi_mulr,↓xi_div,↓xi_mod,↓ag_ii,↓xg_ss,↓xg_rr,↓xx_t,↓xx_l,↓xx_d,↓xl_s,↓xl_l,↓xl_x,↓bf_abs,↓bf_int,↓xf_chr,↓xf_str,↓xf_lens,↓xf_lenl,↓bf_ord,↓bf_max,↓xf_list,↓xa_l,↓xp_l,↓xp0_l,↓xd_l,↓xs_l,↓xs_i,↓xs_s,↓xs_t,↓cm_eq,↓cm_ne,↓cm_lt,↓cm_le,↓cm_les,↓cm_gt,↓cm_ge,↓cm_in,↓cm_notin,↓xc_nn,↓xc_nr,↓eq_i,↓eq_s,↓eq_b,↓xe_t,↓xe_l,↓xm_ls,↓xm_li,↓xm_sd,↓xm_id,↓xm_t,↓me_s,↓xcp_l,↓fi_l,↓fi_t,↓ft_l,↓fv_l,↓fr_i,↓fk_n,↓fk_c,↓fk_r,↓wk_n,↓wk_c,↓wk_r,↓body_eq,↓ret_r,↓ret_n,sset,reduceCtorEq,if_true,if_false] at $z:ident ⊢))
local macro_rules | `(tactic| walk_at "z") => do
  let z := Lean.mkIdent `z
  `(tactic| (simp (disch := walk_at "Y") only [↓wpSs_nil,↓wpSs_cons,↓sk_next,↓sk_ret,↓sk_cont,↓br_t,↓br_f,↓br_T,↓br_F,↓br_n,↓cn_t,↓e_loc,↓e_gint,↓e_int,↓e_str,↓e_bool,↓e_none,↓e_pow,↓e_neg,↓e_attr,↓e_bin,↓e_not,↓e_and,↓e_or,↓e_cmp,↓e_ite,↓e_list,↓e_tup,↓e_d0td,↓e_d0sd,↓e_d0id,↓e_idx,↓e_slice,↓e_call,↓e_met,↓e_new,↓e_bi,↓e_app,↓e_pop,↓e_pop0,↓e_dgt,↓e_sfind,↓e_compA,↓e_compI,↓es_n,↓es_c,↓o_n,↓o_s,↓io_i,↓nv_b,↓an_c,↓or_c,↓av_1,↓av_2,↓ov_1,↓ov_2,↓mt_r,↓tv_b,↓lv_r,↓dv_r,↓sv_r,↓sv_t,↓t_not,↓t_and,↓t_or,↓t_cmp,↓t_loc,↓t_bool,↓t_call,↓t_met,↓al_n,↓al_c,↓ay_n,↓ay_c,↓all_T,↓all_F,↓all_P,↓p_asg,↓p_unpk,↓p_sattr,↓p_sidx,↓p_aug,↓p_augattr,↓p_ifs,↓p_whl,↓p_forS,↓p_forT,↓p_forR,↓p_forV,↓p_ret,↓p_retn,↓p_cont,↓p_expr,↓rd_r,↓sa_r,↓bi_ii,↓xi_ss,↓xi_tt,↓xi_rr,↓bi_sub,↓xi_mul,↓xi_mulr,↓xi_div,↓xi_mod,↓ag_ii,↓xg_ss,↓xg_rr,↓xx_t,↓xx_l,↓xx_d,↓xl_s,↓xl_l,↓xl_x,↓bf_abs,↓bf_int,↓xf_chr,↓xf_str,↓xf_lens,↓xf_lenl,↓bf_ord,↓bf_max,↓xf_list,↓xa_l,↓xp_l,↓xp0_l,↓xd_l,↓xs_l,↓xs_i,↓xs_s,↓xs_t,↓cm_eq,↓cm_ne,↓cm_lt,↓cm_le,↓cm_les,↓cm_gt,↓cm_ge,↓cm_in,↓cm_notin,↓xc_nn,↓xc_nr,↓eq_i,↓eq_s,↓eq_b,↓xe_t,↓xe_l,↓xm_ls,↓xm_li,↓xm_sd,↓xm_id,↓xm_t,↓me_s,↓xcp_l,↓fi_l,↓fi_t,↓ft_l,↓fv_l,↓fr_i,↓fk_n,↓fk_c,↓fk_r,↓wk_n,↓wk_c,↓wk_r,↓body_eq,↓ret_r,↓ret_n,sset,reduceCtorEq,if_true,if_false] at $z:ident))
section
def hexB : List S := [.asg .n_end (E.bin .add (E.loc .n_end) (E.int 1))]
def hexT : E := (E.call .f_is_hex_digit [(E.slice (E.attr (E.loc .n_self) .n_source) (some (E.loc .n_end)) (some (E.bin .add (E.loc .n_end) (E.int 1))))])
def digB : List S := [.asg .n_end (E.bin .add (E.loc .n_end) (E.int 1))]
def digT : E := (E.call .f_is_digit [(E.slice (E.attr (E.loc .n_self) .n_source) (some (E.loc .n_end)) (some (E.bin .add (E.loc .n_end) (E.int 1))))])
section
variable {sp : Sp} (hC : Calls sp) {H : AH} {Q : Post} {src : Tx} {er sc : Addr} {p : Nat} (hs : H sc = some (scO src er p)) (hl : src.length ≤ 1000000)
include hC
theorem c_digits7 (h : Q (.int 7) H) : sp .f_digits_value [.str [55],.int 10,.int 2147483647] H Q := by
  refine hC _ _ [] _ _ rfl ?_
  simp (disch := with_unfolding_all (first | exact Yes.mk (id rfl) | assumption | exact pA_same | (refine pA_at ?_ ?_ <;> assumption))) only [b_digits_value,Fn.body,Fn.params,rhoOf,List.append_nil,List.cons_append,List.nil_append,List.drop,Fn.dflts,List.length,↓wpSs_nil,↓wpSs_cons,↓sk_next,↓sk_ret,↓sk_cont,↓wpS.eq_1,↓wpS.eq_2,↓wpS.eq_3,↓wpS.eq_4,↓wpS.eq_5,↓wpS.eq_6,↓wpS.eq_7,↓wpS.eq_13,↓wpS.eq_14,↓wpS.eq_15,↓wpS.eq_16,↓s_whl,↓s_forS,↓s_forT,↓s_forR,↓s_forV,↓wpE.eq_1,↓wpE.eq_2,↓wpE.eq_3,↓wpE.eq_4,↓wpE.eq_5,↓wpE.eq_6,↓wpE.eq_7,↓wpE.eq_8,↓wpE.eq_9,↓wpE.eq_10,↓wpE.eq_11,↓wpE.eq_12,↓wpE.eq_13,↓wpE.eq_14,↓wpE.eq_15,↓wpE.eq_16,↓wpE.eq_17,↓wpE.eq_18,↓wpE.eq_19,↓wpE.eq_20,↓wpE.eq_21,↓wpE.eq_22,↓wpE.eq_24,↓wpE.eq_25,↓wpE.eq_27,↓wpE.eq_28,↓wpE.eq_30,↓wpE.eq_31,↓wpE.eq_32,↓e_meth,↓e_append,↓e_dget,↓wpEs,↓wpO,↓wpDs,↓wpAnd,↓wpOr,↓wpT.eq_1,↓wpT.eq_2,↓wpT.eq_3,↓wpT.eq_4,↓wpT.eq_5,↓wpT.eq_6,↓wpT.eq_7,↓t_meth,↓wpAllT,↓wpAnyT,↓retOf,↓rd_r,↓sa_r,↓bi_ii,↓bi_ss,↓bi_tt,↓bi_rr,↓bi_sub,↓bi_mul,↓bi_mulr,↓bi_div,↓bi_mod,↓ag_ii,↓ag_ss,↓ag_rr,↓ix_t,↓ix_l,↓ix_d,↓sl_s,↓sl_l,↓sl_x,↓bf_abs,↓bf_int,↓bf_chr,↓bf_str,↓bf_lens,↓bf_lenl,↓bf_ord,↓bf_max,↓bf_list,↓ap_l,↓po_l,↓po0_l,↓dg_l,↓si_l,↓si_i,↓si_s,↓si_t,↓cm_eq,↓cm_ne,↓cm_lt,↓cm_le,↓cm_les,↓cm_gt,↓cm_ge,↓cm_in,↓cm_notin,↓cm_is,↓eq_i,↓eq_s,↓eq_b,↓eq_t,↓eq_l,↓me_ls,↓me_li,↓me_sd,↓me_id,↓me_t,↓me_s,↓cp_l,↓sq_l,↓sq_t,↓it_l,↓it_t,↓it_s,↓me_r,↓is_l,↓is_d,↓all_iff,↓ex_bool,↓ex_str,↓ex_int,↓ex_ref,listM,strOf,intOf,putAll,lk,sset,ok_some,ok_none,Option.some.injEq,exists_eq_left',put_apply,reduceCtorEq,if_true,if_false,List.isEmpty,not_false_eq_true,not_true_eq_false,true_and,and_true,forall_const,true_imp_iff,false_imp_iff,Bool.true_eq_false,Bool.false_eq_true,List.length_cons,List.length_nil,Nat.reduceAdd,Nat.reduceLeDiff,Nat.reduceLT,forall_eq,forall_eq',List.map,forL,srcB,asgB,bodyB,Option.some.injEq,exists_eq_left',↓wpE.eq_29,sfindV,small]
  simp
  exact h
include hs hl
theorem hex_turn {i : Nat} {c : Tx} {ρ : Rho} {Q : SPost} {P : Rho → AH → Prop} (hp : i ≤ 900000) (h0 : at1 src i = c) (hr : ρ .n_self = some (.ref sc)) (he : ρ .n_end = some (.int i))
    (h : isX c = true → P (put ρ .n_end (.int (i + 1 : Nat))) H) (h' : isX c = false → Q .next ρ H) : turnW (testB sp hexT) (bodyB sp hexB) Q P ρ H := by
  simp only [turnW,testB,bodyB,hexT,hexB]
  have e0 : ∀ n m : Int,n = i → m = i + 1 → cut (some n) (some m) src = c := fun n m a b => by rw [cut_at src i (i + 1) _ _ a (by omega),show i + 1 - i = 1 by omega]; exact h0
  walk_at "Ore"
  refine ⟨by omega,by omega,by omega,?_⟩
  rw [e0 _ _ rfl rfl]
  refine c_is_hex hC ?_
  walk_at "Ore"
  exact ⟨h,h'⟩
theorem dig_turn {i : Nat} {c : Tx} {ρ : Rho} {Q : SPost} {P : Rho → AH → Prop} (hp : i ≤ 900000) (h0 : at1 src i = c) (hr : ρ .n_self = some (.ref sc)) (he : ρ .n_end = some (.int i))
    (h : isD c = true → P (put ρ .n_end (.int (i + 1 : Nat))) H) (h' : isD c = false → Q .next ρ H) : turnW (testB sp digT) (bodyB sp digB) Q P ρ H := by
  simp only [turnW,testB,bodyB,digT,digB]
  have e0 : ∀ n m : Int,n = i → m = i + 1 → cut (some n) (some m) src = c := fun n m a b => by rw [cut_at src i (i + 1) _ _ a (by omega),show i + 1 - i = 1 by omega]; exact h0
  walk_at "Ore"
  refine ⟨by omega,by omega,by omega,?_⟩
  rw [e0 _ _ rfl rfl]
  refine c_is_digit hC ?_
  walk_at "Ore"
  exact ⟨h,h'⟩
omit hl in
theorem c_whole7 {q : Nat} (h : ∀ tk,H tk = none → Q (.ref tk) (put H tk (tokO [105,110,116] (.int 7) q))) : sp .f_Scanner_whole [.ref sc,.int q,.int 7,.int 2147483647] H Q := by
  refine hC _ _ [] _ _ rfl ?_
  simp (disch := with_unfolding_all (first | exact Yes.mk (id rfl) | assumption | exact pA_same | (refine pA_at ?_ ?_ <;> assumption))) only [b_Scanner_whole,Fn.body,Fn.params,rhoOf,List.append_nil,List.cons_append,List.nil_append,List.drop,Fn.dflts,List.length,↓wpSs_nil,↓wpSs_cons,↓sk_next,↓sk_ret,↓sk_cont,↓wpS.eq_1,↓wpS.eq_2,↓wpS.eq_3,↓wpS.eq_4,↓wpS.eq_5,↓wpS.eq_6,↓wpS.eq_7,↓wpS.eq_13,↓wpS.eq_14,↓wpS.eq_15,↓wpS.eq_16,↓s_whl,↓s_forS,↓s_forT,↓s_forR,↓s_forV,↓wpE.eq_1,↓wpE.eq_2,↓wpE.eq_3,↓wpE.eq_4,↓wpE.eq_5,↓wpE.eq_6,↓wpE.eq_7,↓wpE.eq_8,↓wpE.eq_9,↓wpE.eq_10,↓wpE.eq_11,↓wpE.eq_12,↓wpE.eq_13,↓wpE.eq_14,↓wpE.eq_15,↓wpE.eq_16,↓wpE.eq_17,↓wpE.eq_18,↓wpE.eq_19,↓wpE.eq_20,↓wpE.eq_21,↓wpE.eq_22,↓wpE.eq_24,↓wpE.eq_25,↓wpE.eq_27,↓wpE.eq_28,↓wpE.eq_30,↓wpE.eq_31,↓wpE.eq_32,↓e_meth,↓e_append,↓e_dget,↓wpEs,↓wpO,↓wpDs,↓wpAnd,↓wpOr,↓wpT.eq_1,↓wpT.eq_2,↓wpT.eq_3,↓wpT.eq_4,↓wpT.eq_5,↓wpT.eq_6,↓wpT.eq_7,↓t_meth,↓wpAllT,↓wpAnyT,↓retOf,↓rd_r,↓sa_r,↓bi_ii,↓bi_ss,↓bi_tt,↓bi_rr,↓bi_sub,↓bi_mul,↓bi_mulr,↓bi_div,↓bi_mod,↓ag_ii,↓ag_ss,↓ag_rr,↓ix_t,↓ix_l,↓ix_d,↓sl_s,↓sl_l,↓sl_x,↓bf_abs,↓bf_int,↓bf_chr,↓bf_str,↓bf_lens,↓bf_lenl,↓bf_ord,↓bf_max,↓bf_list,↓ap_l,↓po_l,↓po0_l,↓dg_l,↓si_l,↓si_i,↓si_s,↓si_t,↓cm_eq,↓cm_ne,↓cm_lt,↓cm_le,↓cm_les,↓cm_gt,↓cm_ge,↓cm_in,↓cm_notin,↓cm_is,↓eq_i,↓eq_s,↓eq_b,↓eq_t,↓eq_l,↓me_ls,↓me_li,↓me_sd,↓me_id,↓me_t,↓me_s,↓cp_l,↓sq_l,↓sq_t,↓it_l,↓it_t,↓it_s,↓me_r,↓is_l,↓is_d,↓all_iff,↓ex_bool,↓ex_str,↓ex_int,↓ex_ref,listM,strOf,intOf,putAll,lk,sset,ok_some,ok_none,Option.some.injEq,exists_eq_left',put_apply,reduceCtorEq,if_true,if_false,List.isEmpty,not_false_eq_true,not_true_eq_false,true_and,and_true,forall_const,true_imp_iff,false_imp_iff,Bool.true_eq_false,Bool.false_eq_true,List.length_cons,List.length_nil,Nat.reduceAdd,Nat.reduceLeDiff,Nat.reduceLT,forall_eq,forall_eq']
  refine ⟨fun e => absurd e (by omega),fun _ tk htk => c_Token hC htk ?_⟩
  walk_at "O"
  exact h tk htk
theorem c_numeral {t : Tx} (hp : p ≤ 800000) (ht : src.drop p = [55] ++ t) (hn : isX (t.take 1) = false ∧ isD (t.take 1) = false ∧ t.take 1 ≠ [72] ∧ t.take 1 ≠ [88] ∧ t.take 1 ≠ [46])
    (h : ∀ tk,H tk = none → Q (.ref tk) (put (put H sc (scO src er (p + 1 : Nat))) tk (tokO [105,110,116] (.int 7) p))) : sp .f_Scanner_numeral [.ref sc,.int p] H Q := by
  refine hC _ _ [] _ _ rfl ?_
  simp only [Fn.body,Fn.params,rhoOf,List.cons_append,List.nil_append]
  (unfold b_Scanner_numeral; walk_at "X")
  refine whl_in fun P hP => ?_
  have a1 : ∀ i,at1 src (p + i) = (([55] ++ t).drop i).take 1 := at1_of ht
  have ec : cut (some (p : Int)) (some ((p + 1 : Nat) : Int)) src = [55] := by rw [cut_at src p (p + 1) _ _ rfl rfl,ht,show p + 1 - p = 1 by omega]; rfl
  refine hP _ _ (hex_turn (i := p) hC hs hl (by omega) (a1 0) rfl rfl (fun _ => ?_) fun e => by cases e)
  refine hP _ _ (hex_turn (i := p + 1) hC hs hl (by omega) (a1 1) rfl rfl (fun e => absurd ((hn.1).symm.trans e) (by decide)) fun _ => ?_)
  walk_at "X"
  refine ⟨⟨⟨by omega,by omega⟩,⟨by omega,by omega⟩,by omega⟩,?_⟩
  walk_at "X"
  refine ⟨⟨⟨by omega,by omega⟩,⟨by omega,by omega⟩,by omega⟩,?_⟩
  rw [cut_at src (p + 1) (p + 2) _ _ rfl (by omega),show p + 2 - (p + 1) = 1 by omega,show (src.drop (p + 1)).take 1 = t.take 1 from a1 1]
  have n1 := hn.2.2.1
  have n2 := hn.2.2.2.1
  have n3 := hn.2.2.2.2
  walk_at "X"
  refine whl_in fun P hP => ?_
  refine hP _ _ (dig_turn (i := p) hC hs hl (by omega) (a1 0) rfl rfl (fun _ => ?_) fun e => by cases e)
  refine hP _ _ (dig_turn (i := p + 1) hC hs hl (by omega) (a1 1) rfl rfl (fun e => absurd ((hn.2.1).symm.trans e) (by decide)) fun _ => ?_)
  walk_at "X"
  refine c_char0 (p := p + 1) hC put_same (by omega) hl ?_
  rw [show at1 src (p + 1) = t.take 1 from a1 1]
  walk_at "X"
  refine ⟨⟨⟨by omega,by omega⟩,⟨by omega,by omega⟩,by omega⟩,?_⟩
  rw [ec]
  refine c_digits7 hC ?_
  walk_at "X"
  refine c_whole7 (p := p + 1) hC put_same fun tk htk => ?_
  exact h tk (fresh_put htk).1
end
end
section

abbrev Row := Tx × Tx × Nat
abbrev Mk := List (Nat × Tx)
def symV : List Tx := [[40],[41],[58],[59],[44],[46],[61]]
def kwV : List Tx := [[86,65,82],[65,82,82,65,89],[79,70],[82,69,67,79,82,68]]
def idV : List Tx := [[84],[73,78,84,69,71,69,82],[65],[86],[110,111,112,101],[67,72,65,82],[80],[66,89,84,69],[83,69,84],[66,79,79,76,69,65,78],[87],[120],[70],[84,82,85,69],[65,66,83],[97,48],[98,49],[99,50],[100,51],[101,52],[102,53],[103,54],[104,55],[105,56]]
def voc : List Tx := symV ++ (kwV ++ ([[55]] ++ idV))
def sortOf (s : Tx) : Tx := if s ∈ symV ++ kwV then s else if s = [55] then [105,110,116] else [105,100,101,110,116]
def valOf (sort sign : Tx) : V := if sort = [105,100,101,110,116] then .str sign else if sort = [105,110,116] then .int 7 else .str []
def endL : List Tx := [[],[32],[10],[9],[40],[41],[58],[59],[44]]
def Row.ok (r : Row) (src : Tx) : Prop := (r = ([101,111,102],[],r.2.2) ∧ src.drop r.2.2 = []) ∨ (r.2.1 ∈ voc ∧ r.1 = sortOf r.2.1 ∧ ∃ u,src.drop r.2.2 = r.2.1 ++ u ∧ u.take 1 ∈ endL)
def Lex (src : Tx) : Nat → List Row → Prop
  | _,[] => True
  | p,r :: q => (∃ g ∈ gaps,r.2.2 = p + g.length ∧ src.drop p = g ++ src.drop r.2.2) ∧ r.2.2 ≤ src.length ∧ Row.ok r src ∧ (q = [] → r.1 = [101,111,102]) ∧ (r.1 = [101,111,102] → q = []) ∧ Lex src (r.2.2 + r.2.1.length) q
def alnum (s : Tx) : Bool := s.all fun x => isL [x] || isD [x]
def symC : Tx := [43,45,42,47,126,38,46,44,59,124,40,91,123,94,61,35,60,62,58,41,93,125]
def clsOfV (s : Tx) : Bool := match s with
  | [x] => if s = [55] then sortOf s == [105,110,116] else if isL s then sortOf s == [105,100,101,110,116] && decide (s ∉ kwl) else decide (x ∈ symC) && !isD s && decide (x ≠ 34) && sortOf s == s && endL.all (fun b => decide ([x] ++ b ∉ ([[58,61],[60,61],[62,61],[46,46]] : List Tx))) && (decide (s ≠ [40]) || true)
  | x :: _ => isL [x] && alnum s && decide (s.length ≤ 100) && (if s ∈ kwl then sortOf s == s else sortOf s == [105,100,101,110,116])
  | [] => false
theorem voc_cls : voc.all clsOfV = true := by decide +kernel
theorem sort_not : voc.all (fun s => decide (sortOf s ≠ [101,111,102]) && decide (s ≠ []) && decide (s.length ≤ 10)) = true := by decide +kernel
theorem ends_ok : endL.all (fun b => !(isL b || isD b) && !isX b && decide (b ≠ [72]) && decide (b ≠ [88]) && decide (b ≠ [46]) && decide (b ≠ [42])) = true := by decide +kernel
theorem ends_of {u : Tx} (h : u.take 1 ∈ endL) : (isL (u.take 1) || isD (u.take 1)) = false ∧ isX (u.take 1) = false ∧ u.take 1 ≠ [72] ∧ u.take 1 ≠ [88] ∧ u.take 1 ≠ [46] ∧ u.take 1 ≠ [42] := by
  have := List.all_eq_true.mp ends_ok _ h
  simp only [Bool.and_eq_true,Bool.not_eq_true',decide_eq_true_eq] at this
  obtain ⟨⟨⟨⟨⟨a,b⟩,c⟩,d⟩,e⟩,f⟩ := this
  exact ⟨a,b,c,d,e,f⟩
theorem voc_start {s u : Tx} (hs : s ∈ voc) (hu : u.take 1 ∈ endL) : starts (s ++ u) := by
  have h1 := List.all_eq_true.mp (show voc.all (fun s => match s with | x :: r => decide (32 < x) && (decide (x ≠ 40) || decide (r = [])) | [] => false) = true by decide +kernel) s hs
  cases s with
  | nil => exact absurd h1 (by simp)
  | cons x r =>
    simp only [Bool.and_eq_true,Bool.or_eq_true,decide_eq_true_eq] at h1
    refine ⟨h1.1,fun e => ?_⟩
    rcases h1.2 with h | h
    · exact absurd e h
    · subst h; exact (ends_of hu).2.2.2.2.2
end
section
section
variable {sp : Sp} (hC : Calls sp) {H : AH} {Q : Post} {src : Tx} {er sc : Addr} {p : Nat} (hs : H sc = some (scO src er p)) (hl : src.length ≤ 700000)
include hC hs hl
theorem c_take {r : Row} {q : List Row} (hL : Lex src p (r :: q)) (h : ∀ tk,H tk = none → Q (.ref tk) (put (put H sc (scO src er (r.2.2 + r.2.1.length : Nat))) tk (tokO r.1 (valOf r.1 r.2.1) r.2.2))) :
    sp .f_Scanner_take [.ref sc] H Q := by
  obtain ⟨⟨g,hg,he,hd⟩,hle,hok,-⟩ := hL
  obtain ⟨so,sg,st⟩ := r
  dsimp only at *
  have hst : starts (src.drop st) := by
    rcases hok with ⟨-,h2⟩ | ⟨h1,-,u,h2,h3⟩
    · dsimp only at h2; rw [h2]; trivial
    · dsimp only at h1 h2; rw [h2]; exact voc_start h1 h3
  refine hC _ _ [] _ _ rfl ?_
  simp only [Fn.body,Fn.params,rhoOf,List.cons_append,List.nil_append]
  (unfold b_Scanner_take; walk_at "X")
  refine whl_in fun P hP => hP _ _ ?_
  walk_at "X"
  refine c_skip (p := p) hC hs (by omega) (by omega) hg hd hst ?_
  rw [← he]
  walk_at "X"
  refine c_char0 (p := st) hC put_same (by omega) (by omega) ?_
  have a0 : at1 src st = (src.drop st).take 1 := rfl
  rcases hok with ⟨h1,h2⟩ | ⟨h1,h2,u,h3,h4⟩
  · dsimp only at h1 h2
    rw [a0,h2]
    cases h1
    walk_at "X"
    intro tk htk
    refine c_Token hC htk ?_
    simp only [true_and]
    exact h tk (fresh_put htk).1
  · dsimp only at h1 h2 h3 h4
    have hc := List.all_eq_true.mp voc_cls sg h1
    have hE := ends_of h4
    rw [a0,h3]
    cases sg with
    | nil => exact absurd hc (by decide)
    | cons x r =>
    rw [show (x :: r ++ u).take 1 = [x] from rfl]
    walk_at "X"
    refine c_is_letter hC ?_
    walk_at "X"
    cases r with
    | nil =>
      dsimp only [clsOfV] at hc
      split at hc
      · next e =>
        cases e
        walk_at "X"
        refine c_is_digit hC ?_
        walk_at "X"
        refine c_numeral (p := st) hC put_same (by omega) (by omega) h3 ⟨hE.2.1,by revert hE; cases isD (List.take 1 u) <;> simp,hE.2.2.1,hE.2.2.2.1,hE.2.2.2.2.1⟩ fun tk htk => ?_
        rw [put_put]
        cases h2
        exact h tk (fresh_put htk).1
      · split at hc
        · next e =>
          simp only [Bool.and_eq_true,beq_iff_eq,decide_eq_true_eq] at hc
          refine Brn.mk (fun _ => ?_) fun n => absurd e n
          walk_at "X"
          refine c_word (p := st) hC put_same (by omega) (by omega) (by simp) h3 (fun y hy => by simp at hy; subst hy; rw [e]; rfl) hE.1 fun tk htk => ?_
          rw [put_put,if_neg hc.2,if_neg hc.2]
          rw [h2,hc.1] at h
          exact h tk (fresh_put htk).1
        · next e =>
          simp only [Bool.and_eq_true,beq_iff_eq,decide_eq_true_eq,Bool.not_eq_true',List.all_eq_true] at hc
          obtain ⟨⟨⟨⟨⟨c1,c2⟩,c3⟩,c4⟩,c5⟩,-⟩ := hc
          refine Brn.mk (fun n => absurd n e) fun _ => ?_
          walk_at "X"
          refine c_is_digit hC ?_
          rw [c2]
          walk_at "X"
          refine Brn.mk (fun n => absurd (List.cons.inj n).1 c3) fun _ => ?_
          walk_at "X"
          refine c_symbol (p := st) hC put_same (by omega) (by omega) (x := x) (b := u.take 1) (by rw [a0,h3]; rfl) ?_ (by have := c5 _ h4; simpa using this) c1 ?_
          · have : at1 src (st + 1) = ((x :: u).drop 1).take 1 := at1_of h3 1
            exact this
          walk_at "X"
          rw [put_put]
          intro tk htk
          refine c_Token hC htk ?_
          simp only [true_and]
          have hn : [x] ≠ [105,100,101,110,116] ∧ [x] ≠ [105,110,116] := by simp
          rw [h2,c4,valOf,if_neg hn.1,if_neg hn.2] at h
          exact h tk (fresh_put htk).1
    | cons y r =>
      simp only [clsOfV,Bool.and_eq_true,decide_eq_true_eq] at hc
      obtain ⟨⟨⟨c1,c2⟩,c3⟩,c4⟩ := hc
      rw [c1]
      walk_at "X"
      refine c_word (p := st) hC put_same (by omega) (by omega) c3 h3 (List.all_eq_true.mp c2) hE.1 fun tk htk => ?_
      rw [put_put]
      have hx := h tk (fresh_put htk).1
      rw [h2] at hx
      by_cases hk : x :: y :: r ∈ kwl
      · rw [if_pos hk] at c4
        rw [if_pos hk,if_pos hk]
        rw [beq_iff_eq.mp c4] at hx
        rw [valOf,if_neg (fun e => by rw [e] at hk; revert hk; decide),if_neg (fun e => by rw [e] at hk; revert hk; decide)] at hx
        exact hx
      · rw [if_neg hk] at c4
        rw [if_neg hk,if_neg hk]
        rw [beq_iff_eq.mp c4] at hx
        exact hx
end
end
section
structure Cx where
  (rd sc er rw pl ty kn ss tB tC tY tI tM tL tN p1 p2 p3 : Addr)
  src : Tx
structure PS where
  rs : List Row
  ms : Mk
  ar : Nat
def so : List Row → Tx
  | [] => [101,111,102]
  | r :: _ => r.1
def sg : List Row → Tx
  | [] => []
  | r :: _ => r.2.1
def spo : List Row → Nat
  | [] => 0
  | r :: _ => r.2.2
def addM (m : Mk) (p : Nat) (code : Tx) : Mk := if p ∈ m.map Prod.fst then m else m ++ [(p,code)]
def mkV (m : Mk) : List V := m.map fun q => .tup [.int q.1,.str q.2]
def mkD (m : Mk) : List (Int × V) := m.map fun q => ((q.1 : Int),V.str q.2)
abbrev rdO (c : Cx) (tk : Addr) : O := .inst .c_Reader [(.n_scanner,.ref c.sc),(.n_types,.ref c.ty),(.n_errors,.ref c.er),(.n_importer,.none),(.n_scopes,.ref c.ss),(.n_module,.str [77]),
  (.n_procs,.ref c.p1),(.n_records,.ref c.p2),(.n_forwards,.ref c.p3),(.n_level,.int 0),(.n_nest,.int 0),(.n_parts,.int 0),(.n_token,.ref tk)]
abbrev erO (c : Cx) : O := .inst .c_ErrorList [(.n_rows,.ref c.rw),(.n_places,.ref c.pl)]
abbrev tyO (c : Cx) (k : Int) : O := .inst .c_Types [(.n_counter,.int k),(.n_known,.ref c.kn),(.n_boolean,.ref c.tB),(.n_char,.ref c.tC),(.n_byte,.ref c.tY),(.n_integer,.ref c.tI),(.n_mask,.ref c.tM),(.n_nil,.ref c.tL),(.n_none,.ref c.tN)]
structure RS (c : Cx) (s : PS) (H : AH) : Prop where
  tk : ∃ tk,H c.rd = some (rdO c tk) ∧ H tk = some (tokO (so s.rs) (valOf (so s.rs) (sg s.rs)) (spo s.rs))
  sc : H c.sc = some (scO c.src c.er (spo s.rs + (sg s.rs).length : Nat))
  er : H c.er = some (erO c)
  rw : H c.rw = some (.list (mkV s.ms))
  pl : H c.pl = some (.idt (mkD s.ms))
  ty : H c.ty = some (tyO c (13 + s.ar : Nat))
  kn : H c.kn = some (.td (6 + s.ar))
  lx : ∃ p,Lex c.src p s.rs
  ne : s.rs ≠ []
  nd : (s.ms.map Prod.fst).Nodup
  le : ∀ q ∈ s.ms,q.1 ≤ c.src.length
  ln : c.src.length ≤ 700000
def muts (c : Cx) : List Addr := [c.rd,c.sc,c.rw,c.pl,c.ty,c.kn]
def Kp (c : Cx) (H H' : AH) : Prop := ∀ a o,H a = some o → a ∉ muts c → H' a = some o
theorem Kp.refl {c : Cx} {H : AH} : Kp c H H := fun _ _ h _ => h
theorem Kp.trans {c : Cx} {H H1 H2 : AH} (h : Kp c H H1) (h2 : Kp c H1 H2) : Kp c H H2 := fun a o e n => h2 a o (h a o e n) n
def O.free : O → Bool
  | .inst .c_Reader _ => false
  | .inst .c_Scanner _ => false
  | .inst .c_Types _ => false
  | .list _ => false
  | .idt _ => false
  | .td _ => false
  | _ => true
theorem nn {H : AH} {a b : Addr} {o o' : O} (ha : H a = some o) (hb : H b = some o') (h : o ≠ o') : a ≠ b := fun e => h (by rw [e,hb] at ha; cases ha; rfl)
theorem nf {H : AH} {a b : Addr} {o : O} (ha : H a = some o) (hb : H b = none) : a ≠ b := fun e => by rw [e,hb] at ha; cases ha
theorem pt {H : AH} {a b : Addr} {o x : O} (ha : H a = some o) (h : a ≠ b) : put H b x a = some o := put_at h ha
theorem nodup_len : ∀ {n : Nat} {l : List Nat},l.Nodup → (∀ x ∈ l,x < n) → l.length ≤ n
  | 0,l,_,h => by
    cases l with
    | nil => exact Nat.le_refl _
    | cons x r => exact absurd (h x List.mem_cons_self) (Nat.not_lt_zero _)
  | n + 1,l,hn,h => by
    have h1 : (l.erase n).length ≤ n := nodup_len (hn.erase n) fun x hx => by
      have := (hn.mem_erase_iff).mp hx
      have := h x this.2
      omega
    by_cases hm : n ∈ l
    · rw [List.length_erase_of_mem hm] at h1; omega
    · rw [List.erase_of_not_mem hm] at h1; omega
theorem mk_len {m : Mk} {n : Nat} (h : (m.map Prod.fst).Nodup) (h2 : ∀ q ∈ m,q.1 ≤ n) : m.length ≤ n + 1 := by
  have := nodup_len (n := n + 1) h fun x hx => by
    obtain ⟨q,hq,rfl⟩ := List.mem_map.mp hx
    exact Nat.lt_succ_of_le (h2 q hq)
  simpa using this
theorem lk_mkD {m : Mk} {p : Nat} : (lk (mkD m) (p : Int)).isSome = true ↔ p ∈ m.map Prod.fst := by
  induction m with
  | nil => simp [mkD,lk]
  | cons q r ih =>
    simp only [mkD,List.map_cons,lk,List.mem_cons] at *
    split
    · next e => simp [Int.ofNat.inj e]
    · next e => rw [ih]; exact ⟨Or.inr,fun h => h.resolve_left fun z => e (by rw [z])⟩
theorem sset_mkD {m : Mk} {p : Nat} {code : Tx} (h : p ∉ m.map Prod.fst) : sset (mkD m) (p : Int) (.str code) = mkD (m ++ [(p,code)]) := by
  induction m with
  | nil => rfl
  | cons q r ih =>
    simp only [List.map_cons,List.mem_cons,not_or] at h
    simp only [mkD,List.map_cons,List.cons_append,sset] at *
    have h1 := h.1; rw [if_neg (show ¬ ((q.1 : Int) = (p : Int)) by omega),ih h.2]
section
variable {c : Cx} {s : PS} {H H' : AH}
theorem RS.nm (h : RS c s H) {a : Addr} {o : O} (ha : H a = some o) (ho : o.free = true) : a ∉ muts c := by
  obtain ⟨tk,h1,-⟩ := h.tk
  intro hm
  simp only [muts,List.mem_cons,List.not_mem_nil,or_false] at hm
  rcases hm with e | e | e | e | e | e <;> subst e
  · rw [h1] at ha; cases ha; cases ho
  · rw [h.sc] at ha; cases ha; cases ho
  · rw [h.rw] at ha; cases ha; cases ho
  · rw [h.pl] at ha; cases ha; cases ho
  · rw [h.ty] at ha; cases ha; cases ho
  · rw [h.kn] at ha; cases ha; cases ho
theorem RS.nml (h : RS c s H) {a : Addr} {xs : List V} (ha : H a = some (.list xs)) (hr : a ≠ c.rw) : a ∉ muts c := by
  obtain ⟨tk,h1,-⟩ := h.tk
  intro hm
  simp only [muts,List.mem_cons,List.not_mem_nil,or_false] at hm
  rcases hm with e | e | e | e | e | e
  · subst e; rw [h1] at ha; cases ha
  · subst e; rw [h.sc] at ha; cases ha
  · exact hr e
  · subst e; rw [h.pl] at ha; cases ha
  · subst e; rw [h.ty] at ha; cases ha
  · subst e; rw [h.kn] at ha; cases ha
theorem RS.nmf (h : RS c s H) {a : Addr} (ha : H a = none) : a ∉ muts c := by
  obtain ⟨tk,h1,-⟩ := h.tk
  intro hm
  simp only [muts,List.mem_cons,List.not_mem_nil,or_false] at hm
  rcases hm with e | e | e | e | e | e <;> subst e
  · rw [h1] at ha; cases ha
  · rw [h.sc] at ha; cases ha
  · rw [h.rw] at ha; cases ha
  · rw [h.pl] at ha; cases ha
  · rw [h.ty] at ha; cases ha
  · rw [h.kn] at ha; cases ha
theorem Kp.get (k : Kp c H H') (h : RS c s H) {a : Addr} {o : O} (ha : H a = some o) (ho : o.free = true) : H' a = some o := k a o ha (h.nm ha ho)
theorem Kp.fresh {s' : PS} (k : Kp c H H') (h : RS c s' H') {a : Addr} (ha : H' a = none) : H a = none := by
  have hm := h.nmf ha
  cases e : H a with
  | none => rfl
  | some o => rw [k a o e hm] at ha; cases ha
theorem RS.put (h : RS c s H) {a : Addr} {o : O} (ha : a ∉ muts c) (he : a ≠ c.er) (ht : ∀ k v p,H a ≠ some (tokO k v p)) : RS c s (put H a o) := by
  obtain ⟨tk,h1,h2⟩ := h.tk
  simp only [muts,List.mem_cons,List.not_mem_nil,or_false,not_or] at ha
  obtain ⟨a1,a2,a3,a4,a5,a6⟩ := ha
  refine ⟨⟨tk,pt h1 (Ne.symm a1),pt h2 fun e => ?_⟩,pt h.sc (Ne.symm a2),pt h.er (Ne.symm he),pt h.rw (Ne.symm a3),pt h.pl (Ne.symm a4),pt h.ty (Ne.symm a5),pt h.kn (Ne.symm a6),h.lx,h.ne,h.nd,h.le,h.ln⟩
  rw [e] at h2; exact ht _ _ _ h2
theorem RS.new (h : RS c s H) {a : Addr} {o : O} (ha : H a = none) : RS c s (Mine.put H a o) :=
  h.put (h.nmf ha) (Ne.symm (nf h.er ha)) fun _ _ _ e => by rw [ha] at e; cases e
theorem Kp.new {a : Addr} {o : O} (ha : H a = none) : Kp c H (put H a o) := fun b o' e _ => pt e (nf e ha)
theorem RS.spot (h : RS c s H) : spo s.rs ≤ c.src.length := by
  obtain ⟨p,hp⟩ := h.lx
  have := h.ne
  cases hr : s.rs with
  | nil => exact absurd hr this
  | cons r q => rw [hr] at hp; exact hp.2.1
end
section
variable {sp : Sp} (hC : Calls sp) {c : Cx} {s : PS} {H : AH} {Q : Post} (hS : RS c s H)
include hC hS
theorem c_mark {p : Nat} {code : Tx} (hp : p ≤ c.src.length) (h : ∀ H',RS c { s with ms := addM s.ms p code } H' → Kp c H H' → Q .none H') : sp .f_ErrorList_mark [.ref c.er,.int p,.str code] H Q := by
  refine hC _ _ [] _ _ rfl ?_
  obtain ⟨⟨tk,h1,h2⟩,h3,h4,h5,h6,h7,h8,h9,h10,h11,h12,h13⟩ := id hS
  have hlen := mk_len h11 h12
  simp only [Fn.body,Fn.params,rhoOf,List.cons_append,List.nil_append]
  (unfold b_ErrorList_mark; walk_at "X")
  refine Brn.mk (fun e => ?_) fun e => ?_
  · rw [lk_mkD] at e
    have := h H (by rw [addM,if_pos e]; exact hS) Kp.refl
    walk_at "X"
    exact this
  · rw [lk_mkD] at e
    walk_at "X"
    refine ⟨by simp [mkD]; omega,?_⟩
    have n1 : c.rw ≠ c.pl := nn h5 h6 nofun
    have n2 : c.er ≠ c.pl := nn h4 h6 nofun
    walk_at "X"
    refine ⟨by simp [mkV]; omega,?_⟩
    walk_at "X"
    rw [sset_mkD e]
    refine h _ ?_ ?_
    · have k : ∀ {a : Addr} {o : O},H a = some o → o ≠ .idt (mkD s.ms) → o ≠ .list (mkV s.ms) → Mine.put (Mine.put H c.pl (.idt (mkD (s.ms ++ [(p,code)])))) c.rw (.list (mkV s.ms ++ [V.tup [V.int ↑p,V.str code]])) a = some o :=
        fun ha x y => pt (pt ha (nn ha h6 x)) (nn ha h5 y)
      refine ⟨⟨tk,k h1 nofun nofun,k h2 nofun nofun⟩,k h3 nofun nofun,k h4 nofun nofun,?_,?_,k h7 nofun nofun,k h8 nofun nofun,h9,h10,?_,?_,h13⟩
      · rw [put_same,addM,if_neg e]; simp [mkV]
      · rw [put_ne (nn h6 h5 nofun),put_same,addM,if_neg e]
      · rw [addM,if_neg e,List.map_append,List.nodup_append]
        exact ⟨h11,by simp,fun a ha b hb => by simp at hb; subst hb; exact fun z => e (z ▸ ha)⟩
      · rw [addM,if_neg e]
        intro q hq
        rcases List.mem_append.mp hq with hq | hq
        · exact h12 q hq
        · simp at hq; subst hq; exact hp
    · intro a o ha hm
      simp only [muts,List.mem_cons,List.not_mem_nil,or_false,not_or] at hm
      exact pt (pt ha hm.2.2.2.1) hm.2.2.1
theorem c_rstep (hne : so s.rs ≠ [101,111,102]) (h : ∀ tk H',H' tk = some (tokO (so s.rs) (valOf (so s.rs) (sg s.rs)) (spo s.rs)) → RS c { s with rs := s.rs.tail } H' → Kp c H H' → Q (.ref tk) H') : sp .f_Reader_step [.ref c.rd] H Q := by
  refine hC _ _ [] _ _ rfl ?_
  obtain ⟨⟨tk,h1,h2⟩,h3,h4,h5,h6,h7,h8,⟨p0,h9⟩,h10,h11,h12,h13⟩ := id hS
  obtain ⟨rs,ms,ar⟩ := s
  dsimp only at *
  match rs,h9,hne with
  | [],_,hne => exact absurd rfl hne
  | [r],h9,hne => exact absurd (h9.2.2.2.1 rfl) hne
  | r :: r' :: q,h9,hne =>
  simp only [so,sg,spo] at *
  have h9' := h9.2.2.2.2.2
  simp only [Fn.body,Fn.params,rhoOf,List.cons_append,List.nil_append]
  (unfold b_Reader_step; walk_at "X")
  refine c_take hC h3 h13 h9' fun t2 ht2 => ?_
  have n1 : c.rd ≠ t2 := nf h1 ht2
  have n2 : c.rd ≠ c.sc := nn h1 h3 nofun
  have n3 := pt (x := scO c.src c.er ↑(r'.snd.snd + r'.snd.fst.length)) h1 n2
  walk_at "X"
  have k : ∀ {a : Addr} {o : O},H a = some o → (∀ m,o ≠ .inst .c_Scanner m) → (∀ m,o ≠ .inst .c_Reader m) → ∀ x y z,Mine.put (Mine.put (Mine.put H c.sc x) t2 y) c.rd z a = some o :=
        fun ha x y _ _ _ => pt (pt (pt ha (nn ha h3 (x _))) (nf ha ht2)) (nn ha h1 (y _))
  refine h tk _ (k h2 nofun nofun _ _ _) ⟨⟨t2,put_same,?_⟩,?_,k h4 nofun nofun _ _ _,k h5 nofun nofun _ _ _,k h6 nofun nofun _ _ _,k h7 nofun nofun _ _ _,k h8 nofun nofun _ _ _,⟨_,h9'⟩,nofun,h11,h12,h13⟩ ?_
  · rw [put_ne (Ne.symm n1),put_same]; rfl
  · rw [put_ne (Ne.symm n2),put_ne (nf h3 ht2),put_same]; rfl
  · intro a o ha hm
    simp only [muts,List.mem_cons,List.not_mem_nil,or_false,not_or] at hm
    exact pt (pt (pt ha hm.2.1) (nf ha ht2)) hm.1
theorem c_rskip {k : Tx} (hk : k ≠ [101,111,102]) (h : so s.rs = k → ∀ H',RS c { s with rs := s.rs.tail } H' → Kp c H H' → Q (.bool true) H') (h' : so s.rs ≠ k → Q (.bool false) H) : sp .f_Reader_skip [.ref c.rd,.str k] H Q := by
  refine hC _ _ [] _ _ rfl ?_
  obtain ⟨tk,h1,h2⟩ := hS.tk
  simp only [Fn.body,Fn.params,rhoOf,List.cons_append,List.nil_append]
  (unfold b_Reader_skip; walk_at "X")
  refine Brn.mk (fun e => ?_) fun e => ?_
  · walk_at "X"
    refine c_rstep hC hS (e ▸ hk) fun tk H' _ a b => ?_
    walk_at "X"
    exact h e _ a b
  · walk_at "X"
    exact h' e
theorem c_rat {k : Tx} (h : Q (.bool (decide (so s.rs = k))) H) : sp .f_Reader_at [.ref c.rd,.str k] H Q := by
  refine hC _ _ [] _ _ rfl ?_
  obtain ⟨tk,h1,h2⟩ := hS.tk
  simp only [Fn.body,Fn.params,rhoOf,List.cons_append,List.nil_append]
  (unfold b_Reader_at; walk_at "X")
  exact h
theorem c_rmark {code : Tx} (h : ∀ H',RS c { s with ms := addM s.ms (spo s.rs) code } H' → Kp c H H' → Q .none H') : sp .f_Reader_mark [.ref c.rd,.str code] H Q := by
  refine hC _ _ [] _ _ rfl ?_
  obtain ⟨tk,h1,h2⟩ := hS.tk
  have h3 := hS.er
  simp only [Fn.body,Fn.params,rhoOf,List.cons_append,List.nil_append]
  (unfold b_Reader_mark; walk_at "X")
  refine c_mark hC hS hS.spot fun H' a b => ?_
  walk_at "X"
  exact h _ a b
theorem c_rexpect {k : Tx} (hk : k ≠ [101,111,102]) (hk2 : k ≠ [105,100,101,110,116]) (hk3 : k.length ≤ 1000) (h : so s.rs = k → ∀ H',RS c { s with rs := s.rs.tail } H' → Kp c H H' → Q (.bool true) H')
    (h' : so s.rs ≠ k → ∀ H',RS c { s with ms := addM s.ms (spo s.rs) ([101,120,112,101,99,116,101,100,32] ++ k) } H' → Kp c H H' → Q (.bool false) H') : sp .f_Reader_expect [.ref c.rd,.str k] H Q := by
  refine hC _ _ [] _ _ rfl ?_
  obtain ⟨tk,h1,h2⟩ := hS.tk
  simp only [Fn.body,Fn.params,rhoOf,List.cons_append,List.nil_append]
  (unfold b_Reader_expect; walk_at "X")
  refine c_rskip hC hS hk (fun e H' a b => ?_) fun e => ?_
  · walk_at "X"
    exact h e _ a b
  · walk_at "X"
    refine ⟨by simp; omega,?_⟩
    walk_at "X"
    refine c_rmark hC hS fun H' a b => ?_
    walk_at "X"
    exact h' e _ a b
theorem c_rname (h : so s.rs = [105,100,101,110,116] → ∀ tk H',H' tk = some (tokO [105,100,101,110,116] (.str (sg s.rs)) (spo s.rs)) → RS c { s with rs := s.rs.tail } H' → Kp c H H' → Q (.ref tk) H')
    (h' : so s.rs ≠ [105,100,101,110,116] → ∀ H',RS c { s with ms := addM s.ms (spo s.rs) [101,120,112,101,99,116,101,100,32,105,100,101,110,116,105,102,105,101,114] } H' → Kp c H H' → Q .none H') : sp .f_Reader_name [.ref c.rd] H Q := by
  refine hC _ _ [] _ _ rfl ?_
  obtain ⟨tk,h1,h2⟩ := hS.tk
  simp only [Fn.body,Fn.params,rhoOf,List.cons_append,List.nil_append]
  (unfold b_Reader_name; walk_at "X")
  refine c_rat hC hS ?_
  walk_at "X"
  refine Brn.mk (fun e => ?_) fun e => ?_
  · have e := of_decide_eq_true e
    walk_at "X"
    refine c_rstep hC hS (e ▸ by decide) fun tk H' t a b => ?_
    rw [e] at t
    exact h e _ _ t a b
  · have e : so s.rs ≠ _ := fun z => e (decide_eq_true z)
    walk_at "X"
    refine c_rmark hC hS fun H' a b => ?_
    walk_at "X"
    exact h' e _ a b
end
end
section

def stepS (s : PS) : PS := { s with rs := s.rs.tail }
def markS (s : PS) (p : Nat) (code : Tx) : PS := { s with ms := addM s.ms p code }
def expS (s : PS) (k : Tx) : PS := if so s.rs = k then stepS s else markS s (spo s.rs) ([101,120,112,101,99,116,101,100,32] ++ k)
def namesF : Nat → PS → List (Tx × Nat) × PS
  | 0,s => ([],s)
  | n + 1,s => if so s.rs = [105,100,101,110,116] then
      (if so s.rs.tail = [44] then ((sg s.rs,spo s.rs) :: (namesF n (stepS (stepS s))).1,(namesF n (stepS (stepS s))).2) else ([(sg s.rs,spo s.rs)],stepS s))
    else ([],markS s (spo s.rs) [101,120,112,101,99,116,101,100,32,105,100,101,110,116,105,102,105,101,114])
def passF : Nat → PS → PS
  | 0,s => s
  | n + 1,s => if so s.rs = [65,82,82,65,89] then passF n (expS (stepS s) [79,70]) else s
inductive Use where
  | ty (a : Addr)
  | mod
  | bad (code : Tx)
structure Tab where
  U : Tx → Use
  U2 : Tx → Use
  form : Addr → Tx
  num : Addr → Nat
  ti : Addr
  tn : Addr
  lv : Int
def typeP (T : Tab) (s : PS) : Addr × PS :=
  if so s.rs = [105,100,101,110,116] then
    match T.U (sg s.rs) with
    | .ty a => (a,stepS s)
    | .bad code => (T.ti,markS (stepS s) (spo s.rs) code)
    | .mod =>
      if so s.rs.tail = [46] then
        if so s.rs.tail.tail = [105,100,101,110,116] then
          match T.U2 (sg s.rs.tail.tail) with
          | .ty a => (a,stepS (stepS (stepS s)))
          | .bad code => (T.ti,markS (stepS (stepS (stepS s))) (if code = [110,111,116,95,101,120,112,111,114,116,101,100] then spo s.rs.tail.tail else spo s.rs) code)
          | .mod => (T.ti,stepS (stepS (stepS s)))
        else (T.ti,markS (stepS (stepS s)) (spo s.rs.tail.tail) [101,120,112,101,99,116,101,100,32,105,100,101,110,116,105,102,105,101,114])
      else (T.ti,markS (stepS s) (spo s.rs.tail) [101,120,112,101,99,116,101,100,32,46])
  else (T.ti,markS s (spo s.rs) [101,120,112,101,99,116,101,100,32,116,121,112,101])
def openP (s : PS) : PS := if so s.rs = [65,82,82,65,89] then passF s.rs.length (markS s (spo s.rs) [111,112,101,110,95,97,114,114,97,121]) else s
def formalP (T : Tab) (s : PS) : Bool × Addr × PS :=
  if so s.rs = [65,82,82,65,89] then (true,typeP T (openP (expS (stepS s) [79,70]))) else (false,typeP T s)
structure Par where
  name : Tx
  loc : Nat
  kind : Tx
  closed : Bool
  which : Nat
  t : Addr
  owner : Tx
structure Hd where
  kind : Tx
  closed : Bool
  which : Nat
  t : Addr
  owner : Tx
  w : Nat
structure QS where
  ps : PS
  pars : List Par
  words : Nat
def tkn (taken : Bool) (pars : List Par) (n : Tx) : Bool := decide (n ∈ pars.map Par.name) || (taken && decide (n = [97,48]))
def enterP (taken : Bool) (h : Hd) : List (Tx × Nat) → QS → QS
  | [],q => q
  | x :: r,q => enterP taken h r (if tkn taken q.pars x.1 then { q with ps := markS q.ps x.2 [100,101,102,105,110,101,100,95,116,119,105,99,101] }
      else { ps := if 60 < q.words + h.w then markS q.ps x.2 [116,111,111,95,108,97,114,103,101] else q.ps,pars := q.pars ++ [⟨x.1,x.2,h.kind,h.closed,h.which,h.t,h.owner⟩],words := q.words + h.w })
def isSt (f : Tx) : Bool := decide (f = [97,114,114,97,121]) || decide (f = [114,101,99,111,114,100])
def hdOf (T : Tab) (var opened : Bool) (t : Addr) (ar : Nat) (owner : Tx) : Hd :=
  { kind := if ((opened || isSt (T.form t)) && !var) || var then [112,97,114] else [118,97,114],closed := (opened || isSt (T.form t)) && !var,which := if opened then ar else 0,t := t,owner := owner,
    w := if opened || decide (T.form t = [114,101,99,111,114,100]) then 2 else 1 }
def ownerOf : List (Tx × Nat) → Tx
  | [] => []
  | x :: _ => x.1
def varS (s : PS) : PS := if so s.rs = [86,65,82] then stepS s else s
def sectionP (T : Tab) (taken : Bool) (q : QS) : QS :=
  let s1 := varS q.ps
  let x := namesF s1.rs.length s1
  let y := formalP T (expS x.2 [58])
  let s4 := { y.2.2 with ar := y.2.2.ar + if y.1 then 1 else 0 }
  enterP taken (hdOf T (decide (so q.ps.rs = [86,65,82])) y.1 y.2.1 s4.ar (ownerOf x.1)) x.1 { q with ps := s4 }
def furtherF (T : Tab) (taken : Bool) : Nat → QS → QS
  | 0,q => q
  | n + 1,q => if so q.ps.rs = [59] then furtherF T taken n (sectionP T taken { q with ps := stepS q.ps }) else q
def resultP (T : Tab) (s : PS) : Addr × PS :=
  if so s.rs = [58] then
    (if isSt (T.form (typeP T (stepS s)).1) then (T.ti,markS (typeP T (stepS s)).2 (spo s.rs.tail) [114,101,115,117,108,116,95,116,121,112,101]) else typeP T (stepS s))
  else (T.tn,s)
def listP (T : Tab) (q : QS) : Addr × QS :=
  if so q.ps.rs = [40] then
    let q1 : QS := { q with ps := stepS q.ps }
    let q2 := if so q1.ps.rs = [41] then q1 else furtherF T false q1.ps.rs.length (sectionP T false q1)
    let z := resultP T (expS q2.ps [41])
    (z.1,{ q2 with ps := z.2 })
  else (T.tn,q)
theorem expS_len (s : PS) (k : Tx) : (expS s k).rs.length ≤ s.rs.length := by
  unfold expS; split
  · simp [stepS]
  · simp [markS]
theorem namesF_len : ∀ (n : Nat) (s : PS),(namesF n s).1.length + (namesF n s).2.rs.length ≤ s.rs.length
  | 0,s => by simp [namesF]
  | n + 1,s => by
    unfold namesF
    split
    · next e =>
      have h1 : s.rs.length = s.rs.tail.length + 1 := by
        cases h : s.rs with
        | nil => rw [h] at e; exact absurd e (by decide)
        | cons => rfl
      split
      · next e2 =>
        have h2 : s.rs.tail.length = s.rs.tail.tail.length + 1 := by
          cases h : s.rs.tail with
          | nil => rw [h] at e2; exact absurd e2 (by decide)
          | cons => rfl
        have := namesF_len n (stepS (stepS s))
        simp only [stepS] at this ⊢
        simp only [List.length_cons]; omega
      · simp only [stepS,List.length_cons,List.length_nil]; omega
    · simp [markS]
theorem passF_len : ∀ (n : Nat) (s : PS),(passF n s).rs.length ≤ s.rs.length
  | 0,s => Nat.le_refl _
  | n + 1,s => by
    unfold passF; split
    · exact Nat.le_trans (passF_len n _) (Nat.le_trans (expS_len _ _) (by simp [stepS]))
    · exact Nat.le_refl _
theorem typeP_len (T : Tab) (s : PS) : (typeP T s).2.rs.length ≤ s.rs.length := by
  unfold typeP; repeat' split
  all_goals simp [markS,stepS]
  all_goals omega
theorem openP_len (s : PS) : (openP s).rs.length ≤ s.rs.length := by
  unfold openP; split
  · exact passF_len _ _
  · exact Nat.le_refl _
theorem tail_len {rs : List Row} {k : Tx} (hk : k ≠ [101,111,102]) (h : so rs = k) : rs.length = rs.tail.length + 1 := by
  cases rs with
  | nil => exact absurd h.symm hk
  | cons => rfl
theorem formalP_len (T : Tab) (s : PS) : (formalP T s).2.2.rs.length + (if (formalP T s).1 then 1 else 0) ≤ s.rs.length := by
  unfold formalP; split
  · next e =>
    have := typeP_len T (openP (expS (stepS s) [79,70]))
    have := openP_len (expS (stepS s) [79,70])
    have := expS_len (stepS s) [79,70]
    have := tail_len (by decide) e
    simp only [stepS,if_true] at *; omega
  · simpa using typeP_len T s
theorem formalP_ar (T : Tab) (s : PS) : (formalP T s).2.2.ar = s.ar := by
  have e1 : ∀ s k,(expS s k).ar = s.ar := fun s k => by unfold expS; split <;> rfl
  have e2 : ∀ n s,(passF n s).ar = s.ar := fun n => by
    induction n with
    | zero => intro s; rfl
    | succ n ih =>
      intro s
      unfold passF
      split
      · rw [ih,e1]; rfl
      · rfl
  have e3 : ∀ s,(openP s).ar = s.ar := fun s => by unfold openP; split <;> simp [e2,markS]
  have e4 : ∀ s,(typeP T s).2.ar = s.ar := fun s => by
    unfold typeP
    repeat' split
    all_goals rfl
  unfold formalP; split
  · simp [e4,e3,e1,stepS]
  · exact e4 s
theorem enterP_ps (tk : Bool) (h : Hd) : ∀ (xs : List (Tx × Nat)) (q : QS),(enterP tk h xs q).ps.rs = q.ps.rs ∧ (enterP tk h xs q).ps.ar = q.ps.ar ∧ (enterP tk h xs q).pars.length ≤ q.pars.length + xs.length
  | [],q => ⟨rfl,rfl,Nat.le_refl _⟩
  | x :: r,q => by
    unfold enterP
    obtain ⟨a,b,c⟩ := enterP_ps tk h r (if tkn tk q.pars x.1 then { q with ps := markS q.ps x.2 [100,101,102,105,110,101,100,95,116,119,105,99,101] }
      else { ps := if 60 < q.words + h.w then markS q.ps x.2 [116,111,111,95,108,97,114,103,101] else q.ps,pars := q.pars ++ [⟨x.1,x.2,h.kind,h.closed,h.which,h.t,h.owner⟩],words := q.words + h.w })
    refine ⟨a.trans ?_,b.trans ?_,Nat.le_trans c ?_⟩
    · split
      · rfl
      · simp only; split <;> rfl
    · split
      · rfl
      · simp only; split <;> rfl
    · simp only [List.length_cons]
      split
      · simp only; omega
      · simp only [List.length_append,List.length_cons,List.length_nil]; omega
theorem varS_len (s : PS) : (varS s).rs.length ≤ s.rs.length ∧ (varS s).ar = s.ar := by
  unfold varS; split
  · simp [stepS]
  · simp
theorem namesF_ar : ∀ (n : Nat) (s : PS),(namesF n s).2.ar = s.ar
  | 0,s => rfl
  | n + 1,s => by
    unfold namesF; repeat' split
    · simp only; rw [namesF_ar n]; rfl
    · rfl
    · rfl
theorem sectionP_len (T : Tab) (tk : Bool) (q : QS) : (sectionP T tk q).ps.rs.length ≤ q.ps.rs.length ∧
    (sectionP T tk q).ps.ar + (sectionP T tk q).ps.rs.length ≤ q.ps.ar + q.ps.rs.length ∧ (sectionP T tk q).pars.length + (sectionP T tk q).ps.rs.length ≤ q.pars.length + q.ps.rs.length := by
  have h1 := varS_len q.ps
  have h2 := namesF_len (varS q.ps).rs.length (varS q.ps)
  have h2' := namesF_ar (varS q.ps).rs.length (varS q.ps)
  have h3 := expS_len (namesF (varS q.ps).rs.length (varS q.ps)).2 [58]
  have h3' : (expS (namesF (varS q.ps).rs.length (varS q.ps)).2 [58]).ar = (namesF (varS q.ps).rs.length (varS q.ps)).2.ar := by unfold expS; split <;> rfl
  have h4 := formalP_len T (expS (namesF (varS q.ps).rs.length (varS q.ps)).2 [58])
  have h4' := formalP_ar T (expS (namesF (varS q.ps).rs.length (varS q.ps)).2 [58])
  unfold sectionP
  dsimp only
  obtain ⟨a,b,c⟩ := enterP_ps tk (hdOf T (decide (so q.ps.rs = [86,65,82])) (formalP T (expS (namesF (varS q.ps).rs.length (varS q.ps)).2 [58])).1 (formalP T (expS (namesF (varS q.ps).rs.length (varS q.ps)).2 [58])).2.1
    ((formalP T (expS (namesF (varS q.ps).rs.length (varS q.ps)).2 [58])).2.2.ar + if (formalP T (expS (namesF (varS q.ps).rs.length (varS q.ps)).2 [58])).1 then 1 else 0) (ownerOf (namesF (varS q.ps).rs.length (varS q.ps)).1))
    (namesF (varS q.ps).rs.length (varS q.ps)).1 { q with ps := { (formalP T (expS (namesF (varS q.ps).rs.length (varS q.ps)).2 [58])).2.2 with ar := (formalP T (expS (namesF (varS q.ps).rs.length (varS q.ps)).2 [58])).2.2.ar + if (formalP T (expS (namesF (varS q.ps).rs.length (varS q.ps)).2 [58])).1 then 1 else 0 } }
  rw [a,b]
  simp only at c ⊢
  refine ⟨by omega,by omega,by omega⟩
end
section
theorem fl_congr {src : AH → Prop} {set : V → Rho → Option Rho} {B : Rho → AH → SPost → Prop} {vs vs' : List V} {ρ : Rho} {H : AH} {Q : SPost} (e : vs = vs') (h : FL src set B vs ρ H Q ⟨⟩) : FL src set B vs' ρ H Q ⟨⟩ := e ▸ h
def TyOk (T : Tab) (H : AH) (a : Addr) : Prop := ∃ m l,H a = some (.inst .c_Type m) ∧ lk m .n_form = some (.str (T.form a)) ∧ lk m .n_number = some (.int (T.num a)) ∧ lk m .n_length = some (.int (l : Nat)) ∧
  T.form a ∈ ([[98,111,111,108,101,97,110],[99,104,97,114],[98,121,116,101],[105,110,116,101,103,101,114],[115,101,116],[112,111,105,110,116,101,114],[97,114,114,97,121],[114,101,99,111,114,100]] : List Tx)
inductive Den2 (T : Tab) (H : AH) (vs : List V) (n : Tx) : Use → Prop
  | un : (∀ v ∈ vs,∃ o m k,v = .ref o ∧ H o = some (.inst .c_Obj m) ∧ lk m .n_name = some (.str k) ∧ k ≠ n) → Den2 T H vs n (.bad [110,111,116,95,101,120,112,111,114,116,101,100])
  | so (o : Addr) (m : List (N × V)) (k : Tx) (u : Use) (pre post : List V) : vs = pre ++ .ref o :: post → (∀ v ∈ pre,∃ o m k,v = .ref o ∧ H o = some (.inst .c_Obj m) ∧ lk m .n_name = some (.str k) ∧ k ≠ n) →
      H o = some (.inst .c_Obj m) → lk m .n_name = some (.str n) → lk m .n_kind = some (.str k) → ((k = [116,121,112,101] ∧ ∃ a,lk m .n_type = some (.ref a) ∧ u = .ty a ∧ TyOk T H a) ∨ (k ≠ [116,121,112,101] ∧ u = .bad [110,111,116,95,97,95,116,121,112,101])) → Den2 T H vs n u
inductive Den (c : Cx) (T : Tab) (H : AH) : Option V → Use → Prop
  | un : Den c T H none (.bad [117,110,100,101,102,105,110,101,100])
  | nat (o : Addr) (m : List (N × V)) (k : Tx) : H o = some (.inst .c_Obj m) → lk m .n_kind = some (.str k) → k ≠ [116,121,112,101] → k ≠ [109,111,100,117,108,101] → Den c T H (some (.ref o)) (.bad [110,111,116,95,97,95,116,121,112,101])
  | rc (o a : Addr) (m m2 : List (N × V)) : H o = some (.inst .c_Obj m) → lk m .n_kind = some (.str [116,121,112,101]) → lk m .n_type = some (.ref a) → H a = some (.inst .c_Type m2) → lk m2 .n_form = some (.str [110,111,110,101]) → Den c T H (some (.ref o)) (.bad [114,101,99,117,114,115,105,118,101,95,116,121,112,101])
  | ty (o a : Addr) (m : List (N × V)) : H o = some (.inst .c_Obj m) → lk m .n_kind = some (.str [116,121,112,101]) → lk m .n_type = some (.ref a) → TyOk T H a → Den c T H (some (.ref o)) (.ty a)
  | mo (o i ol : Addr) (m m2 : List (N × V)) (vs : List V) : H o = some (.inst .c_Obj m) → lk m .n_kind = some (.str [109,111,100,117,108,101]) → lk m .n_value = some (.ref i) → H i = some (.inst .c_Interface m2) → lk m2 .n_find = none → lk m2 .n_objs = some (.ref ol) → ol ≠ c.rw →
      H ol = some (.list vs) → (∀ n ∈ idV,Den2 T H vs n (T.U2 n)) → Den c T H (some (.ref o)) .mod
abbrev Scp := List (Addr × Addr × List (Tx × V))
def look : Scp → Tx → Option V
  | [],_ => none
  | q :: r,n => match look r n with
    | some v => some v
    | none => lk q.2.2 n
structure Env (c : Cx) (T : Tab) (H : AH) : Prop where
  fd : ∃ st scs m,H c.ss = some (.inst .c_Scopes m) ∧ lk m .n_find = none ∧ lk m .n_stack = some (.ref st) ∧ st ≠ c.rw ∧ H st = some (.list (scs.map fun q => .ref q.1)) ∧ scs.length ≤ 10 ∧
    (∀ q ∈ scs,∃ m,H q.1 = some (.inst .c_Scope m) ∧ lk m .n_names = some (.ref q.2.1) ∧ H q.2.1 = some (.sd q.2.2)) ∧ ∀ n ∈ idV,Den c T H (look scs n) (T.U n)
  ti : T.ti = c.tI ∧ TyOk T H c.tI
  tn : T.tn = c.tN
  lv : ∃ m,H c.ss = some (.inst .c_Scopes m) ∧ lk m .n_level = some (.int T.lv)
section
variable {c : Cx} {T : Tab} {s : PS} {H H' : AH}
theorem TyOk.keep (hS : RS c s H) (k : Kp c H H') {a : Addr} (h : TyOk T H a) : TyOk T H' a := by
  obtain ⟨m,l,h1,h2⟩ := h; exact ⟨m,l,k.get hS h1 rfl,h2⟩
theorem Den2.keep (hS : RS c s H) (k : Kp c H H') {vs : List V} {n : Tx} {u : Use} (h : Den2 T H vs n u) : Den2 T H' vs n u := by
  cases h with
  | un h => exact .un fun v hv => by obtain ⟨o,m,k',a,b,d⟩ := h v hv; exact ⟨o,m,k',a,k.get hS b rfl,d⟩
  | so o m k' u pre post h1 h2 h3 h4 h5 h6 =>
    refine .so o m k' u pre post h1 (fun v hv => by obtain ⟨o,m,k',a,b,d⟩ := h2 v hv; exact ⟨o,m,k',a,k.get hS b rfl,d⟩) (k.get hS h3 rfl) h4 h5 ?_
    rcases h6 with ⟨a,b,d,e,f⟩ | h
    · exact .inl ⟨a,b,d,e,f.keep hS k⟩
    · exact .inr h
theorem Den.keep (hS : RS c s H) (k : Kp c H H') {v : Option V} {u : Use} (h : Den c T H v u) : Den c T H' v u := by
  cases h with
  | un => exact .un
  | nat o m k' h1 h2 h3 h4 => exact .nat o m k' (k.get hS h1 rfl) h2 h3 h4
  | rc o a m m2 h1 h2 h3 h4 h5 => exact .rc o a m m2 (k.get hS h1 rfl) h2 h3 (k.get hS h4 rfl) h5
  | ty o a m h1 h2 h3 h4 => exact .ty o a m (k.get hS h1 rfl) h2 h3 (h4.keep hS k)
  | mo o i ol m m2 vs h1 h2 h3 h4 h5 h6 h7 h8 h9 => exact .mo o i ol m m2 vs (k.get hS h1 rfl) h2 h3 (k.get hS h4 rfl) h5 h6 h7 (k _ _ h8 (hS.nml h8 h7)) fun n hn => (h9 n hn).keep hS k
theorem Env.keep (hS : RS c s H) (k : Kp c H H') (h : Env c T H) : Env c T H' := by
  obtain ⟨⟨st,scs,m,h1,h2,h3,h4,h5,h6,h7,h8⟩,hi,hn,ml,g1,g2⟩ := h
  exact ⟨⟨st,scs,m,k.get hS h1 rfl,h2,h3,h4,k _ _ h5 (hS.nml h5 h4),h6,fun q hq => by obtain ⟨m,a,b,d⟩ := h7 q hq; exact ⟨m,k.get hS a rfl,b,k.get hS d rfl⟩,fun n hn => (h8 n hn).keep hS k⟩,
    ⟨hi.1,hi.2.keep hS k⟩,hn,ml,k.get hS g1 rfl,g2⟩
theorem RS.idv (hS : RS c s H) (h : so s.rs = [105,100,101,110,116]) : sg s.rs ∈ idV := by
  obtain ⟨p,hp⟩ := hS.lx
  cases hr : s.rs with
  | nil => exact absurd hr hS.ne
  | cons r q =>
    rw [hr] at hp h
    have h : r.1 = _ := h
    rcases hp.2.2.1 with ⟨e,-⟩ | ⟨e,e2,-⟩
    · rw [e] at h; cases h
    · rw [h] at e2
      have := List.all_eq_true.mp (show voc.all (fun s => decide (sortOf s ≠ [105,100,101,110,116]) || decide (s ∈ idV)) = true by decide +kernel) _ e
      simp only [Bool.or_eq_true,decide_eq_true_eq] at this
      rcases this with h | h
      · exact absurd e2.symm h
      · exact h
end
section
variable {sp : Sp} (hC : Calls sp) {c : Cx} {T : Tab} {s : PS} {H : AH} {Q : Post}
include hC
theorem c_ifind {vs : List V} {n : Tx} {u : Use} {i ol : Addr} {m2 : List (N × V)} (h1 : H i = some (.inst .c_Interface m2)) (h2 : lk m2 .n_objs = some (.ref ol)) (h3 : H ol = some (.list vs)) (hD : Den2 T H vs n u)
    (h : u = .bad [110,111,116,95,101,120,112,111,114,116,101,100] → Q .none H)
    (h' : ∀ o m k,H o = some (.inst .c_Obj m) → lk m .n_kind = some (.str k) → ((k = [116,121,112,101] ∧ ∃ a,lk m .n_type = some (.ref a) ∧ u = .ty a ∧ TyOk T H a) ∨ (k ≠ [116,121,112,101] ∧ u = .bad [110,111,116,95,97,95,116,121,112,101])) → Q (.ref o) H) : sp .f_Interface_find [.ref i,.str n] H Q := by
  refine hC _ _ [] _ _ rfl ?_
  simp only [Fn.body,Fn.params,rhoOf,List.cons_append,List.nil_append]
  (unfold b_Interface_find; walk_at "X")
  have hsrc : srcB (.ref ol) vs H := by simp only [srcB,itemsOfV,h3]
  have skip : ∀ (pre post : List V) (ρ : Rho) (Q : SPost),(∀ v ∈ pre,∃ o m k,v = .ref o ∧ H o = some (.inst .c_Obj m) ∧ lk m .n_name = some (.str k) ∧ k ≠ n) → ρ .n_name = some (.str n) →
      (∀ ρ,ρ .n_name = some (.str n) → FL (srcB (.ref ol) vs) (asgB .n_obj) (bodyB sp [.ifs (E.cmp .eq (E.attr (E.loc .n_obj) .n_name) (E.loc .n_name)) [.ret (E.loc .n_obj)] []]) post ρ H Q ⟨⟩) →
      FL (srcB (.ref ol) vs) (asgB .n_obj) (bodyB sp [.ifs (E.cmp .eq (E.attr (E.loc .n_obj) .n_name) (E.loc .n_name)) [.ret (E.loc .n_obj)] []]) (pre ++ post) ρ H Q ⟨⟩ := by
    intro pre
    induction pre with
    | nil => intro post ρ Q _ hr k; exact k ρ hr
    | cons v pre ih =>
      intro post ρ Q hp hr k
      obtain ⟨o,m,k',rfl,a,b,d⟩ := hp _ List.mem_cons_self
      refine fl_cons hsrc rfl ?_
      walk_at "X"
      exact ih post _ Q (fun v hv => hp v (List.mem_cons_of_mem _ hv)) (by simp only [put_apply,reduceCtorEq,if_false,hr]) k
  cases hD with
  | un hD =>
    refine fl_congr (List.append_nil vs) (skip vs [] _ _ hD rfl fun ρ hr => fl_nil hsrc ?_)
    walk_at "X"
    exact h rfl
  | so o m k u pre post e1 e2 e3 e4 e5 e6 =>
    refine fl_congr e1.symm (skip pre _ _ _ e2 rfl fun ρ hr => fl_cons hsrc rfl ?_)
    walk_at "X"
    exact h' o m k e3 e5 e6
theorem c_sfind {st : Addr} {scs : Scp} {m : List (N × V)} {n : Tx} (h1 : H c.ss = some (.inst .c_Scopes m)) (h2 : lk m .n_stack = some (.ref st)) (h3 : H st = some (.list (scs.map fun q => .ref q.1)))
    (h4 : ∀ q ∈ scs,∃ m,H q.1 = some (.inst .c_Scope m) ∧ lk m .n_names = some (.ref q.2.1) ∧ H q.2.1 = some (.sd q.2.2)) (h : Q ((look scs n).getD .none) H) : sp .f_Scopes_find [.ref c.ss,.str n] H Q := by
  refine hC _ _ [] _ _ rfl ?_
  simp only [Fn.body,Fn.params,rhoOf,List.cons_append,List.nil_append]
  (unfold b_Scopes_find; walk_at "X")
  have main : ∀ (l r : Scp),scs = l ++ r → look r n = none → ∀ (ρ : Rho),ρ .n_name = some (.str n) → FL (srcL st (scs.map fun q => .ref q.1)) (asgB .n_scope) (bodyB sp [.ifs (E.cmp .isin (E.loc .n_name) (E.attr (E.loc .n_scope) .n_names)) [.ret (E.idx (E.attr (E.loc .n_scope) .n_names) (E.loc .n_name))] []]) (l.map fun q => V.ref q.1).reverse ρ H
      (seqK sp [S.ret E.none] fun fl _ H' => Q (retOf fl) H') ⟨⟩ := by
    intro l
    induction hn : l.length generalizing l with
    | zero =>
      intro r e hr ρ hρ
      cases l with
      | cons => cases hn
      | nil =>
        refine fl_nil h3 ?_
        rw [show scs = r from e,hr] at h
        walk_at "X"
        exact h
    | succ k ih =>
      intro r e hr ρ hρ
      rcases List.eq_nil_or_concat l with e0 | ⟨l',q,e0⟩
      · subst e0; cases hn
      · rw [List.concat_eq_append] at e0
        subst e0
        rw [List.map_append,List.reverse_append]
        obtain ⟨mq,a,b,d⟩ := h4 q (by rw [e]; simp)
        have e2 : scs = l' ++ (q :: r) := by rw [e]; simp
        refine fl_cons h3 rfl ?_
        walk_at "X"
        have hl : look (q :: r) n = lk q.2.2 n := by simp only [look,hr]
        refine Brn.mk (fun z => ?_) fun z => ?_
        · obtain ⟨v,hv⟩ := Option.isSome_iff_exists.mp z
          walk_at "X"
          have : look scs n = some v := by
            rw [e2]
            clear ih hn e h e2
            induction l' with
            | nil => rw [List.nil_append,hl,hv]
            | cons x y i => simp only [List.cons_append,look,i]
          rw [this] at h
          exact h
        · walk_at "X"
          exact ih l' (by simpa using hn) (q :: r) e2 (by rw [hl]; simpa using z) _ (by simp only [put_apply,reduceCtorEq,if_false,hρ])
  exact main scs [] (by simp) rfl _ rfl
end
end
section
def Toks (H : AH) : List Addr → List (Tx × Nat) → Prop
  | [],[] => True
  | t :: ts,x :: xs => H t = some (tokO [105,100,101,110,116] (.str x.1) x.2) ∧ Toks H ts xs
  | _,_ => False
theorem Toks.app {H : AH} : ∀ {ts ts' : List Addr} {xs xs' : List (Tx × Nat)},Toks H ts xs → Toks H ts' xs' → Toks H (ts ++ ts') (xs ++ xs')
  | [],_,[],_,_,h => h
  | _ :: _,_,_ :: _,_,h,h2 => ⟨h.1,Toks.app h.2 h2⟩
theorem Toks.len {H : AH} : ∀ {ts : List Addr} {xs : List (Tx × Nat)},Toks H ts xs → ts.length = xs.length
  | [],[],_ => rfl
  | _ :: _,_ :: _,h => by simp [Toks.len h.2]
theorem Toks.imp {H H' : AH} (k : ∀ a k v p,H a = some (tokO k v p) → H' a = some (tokO k v p)) : ∀ {ts : List Addr} {xs : List (Tx × Nat)},Toks H ts xs → Toks H' ts xs
  | [],[],_ => trivial
  | _ :: _,_ :: _,h => ⟨k _ _ _ _ h.1,Toks.imp k h.2⟩
theorem Toks.keep {c : Cx} {s : PS} {H H' : AH} (hS : RS c s H) (k : Kp c H H') {ts : List Addr} {xs : List (Tx × Nat)} (h : Toks H ts xs) : Toks H' ts xs := h.imp fun _ _ _ _ e => k.get hS e rfl
theorem RS.putl {c : Cx} {s : PS} {H : AH} (h : RS c s H) {a : Addr} {xs ys : List V} (ha : H a = some (.list xs)) (hr : a ≠ c.rw) : RS c s (Mine.put H a (.list ys)) :=
  h.put (h.nml ha hr) (nn ha h.er nofun) fun _ _ _ e => by rw [ha] at e; cases e
theorem Kp.putf {c : Cx} {H H' : AH} (h : Kp c H H') {a : Addr} {o : O} (ha : H a = none) : Kp c H (put H' a o) := fun b o' e n => pt (h b o' e n) (nf e ha)
theorem stepS_len {s : PS} {k : Tx} (hk : k ≠ [101,111,102]) (h : so s.rs = k) : (stepS s).rs.length < s.rs.length := by have := tail_len hk h; simp only [stepS]; omega
section
variable {sp : Sp} (hC : Calls sp) {c : Cx} {T : Tab} {s : PS} {H : AH} {Q : Post} (hS : RS c s H)
include hC hS
theorem c_plain_names {n : Nat} (hn : s.rs.length ≤ n) (hn2 : n ≤ 1000) (h : ∀ nm ts H',H nm = none → H' nm = some (.list (ts.map V.ref)) → Toks H' ts (namesF n s).1 → RS c (namesF n s).2 H' → Kp c H H' → Q (.ref nm) H') : sp .f_plain_names [.ref c.rd] H Q := by
  refine hC _ _ [] _ _ rfl ?_
  simp only [Fn.body,Fn.params,rhoOf,List.cons_append,List.nil_append]
  (unfold b_plain_names; walk_at "X")
  intro nm hnm
  walk_at "X"
  refine whl_in fun P hP => ?_
  have main : ∀ (n : Nat) (s1 : PS) (ts : List Addr) (xs : List (Tx × Nat)) (H1 : AH) (ρ : Rho),s1.rs.length ≤ n → xs.length + n ≤ 1000 → RS c s1 H1 → Kp c H H1 → H1 nm = some (.list (ts.map V.ref)) → Toks H1 ts xs → ρ .n_rd = some (.ref c.rd) → ρ .n_found = some (.ref nm) → ρ .n_going = some (.bool true) →
      (∀ ts' H',H' nm = some (.list (ts'.map V.ref)) → Toks H' ts' (xs ++ (namesF n s1).1) → RS c (namesF n s1).2 H' → Kp c H H' → Q (.ref nm) H') → P ρ H1 := by
    intro n
    induction n with
    | zero =>
      intro s1 ts xs H1 ρ hl _ hS1
      exact absurd (List.length_eq_zero_iff.mp (Nat.le_zero.mp hl)) hS1.ne
    | succ n ih =>
      intro s1 ts xs H1 ρ hl hb hS1 hk hnm1 hT hr1 hr2 hr3 hQ
      refine hP _ _ ?_
      have hlen := hT.len
      have hrw : nm ≠ c.rw := Ne.symm (nf hS.rw hnm)
      obtain ⟨tk0,hrd,-⟩ := hS1.tk
      walk_at "X"
      refine c_rname hC hS1 (fun e tk H2 htk hS2 hk2 => ?_) fun e H2 hS2 hk2 => ?_
      · have hnm2 := hk2 _ _ hnm1 (hS1.nml hnm1 hrw)
        have hS3 := hS2.putl (ys := ts.map V.ref ++ [.ref tk]) hnm2 hrw
        obtain ⟨tk1,hrd2,-⟩ := hS3.tk
        have hl2 := stepS_len (by decide) e
        walk_at "X"
        refine ⟨by simp; omega,?_⟩
        walk_at "X"
        have htk3 := pt (x := O.list (ts.map V.ref ++ [V.ref tk])) htk (nn htk hnm2 nofun)
        have hT3 : Toks (put H2 nm (.list (ts.map V.ref ++ [V.ref tk]))) (ts ++ [tk]) (xs ++ [(sg s1.rs,spo s1.rs)]) :=
          Toks.app ((hT.keep hS1 hk2).imp fun a _ _ _ e => pt e (nn e hnm2 nofun)) ⟨htk3,trivial⟩
        have hk3 := (hk.trans hk2).putf (o := .list (ts.map V.ref ++ [V.ref tk])) hnm
        refine c_rskip hC hS3 (by decide) (fun e2 H4 hS4 hk4 => ?_) fun e2 => ?_
        · have hl3 := stepS_len (s := stepS s1) (by decide) e2
          walk_at "X"
          refine ih (stepS (stepS s1)) (ts ++ [tk]) (xs ++ [(sg s1.rs,spo s1.rs)]) H4 _ (by omega) (by simp; omega) hS4 (hk3.trans hk4) (by rw [List.map_append]; exact hk4 _ _ put_same (hS3.nml put_same hrw)) (hT3.keep hS3 hk4) ?_ ?_ ?_ fun ts' H' a b d k => ?_
          · simp only [put_apply,reduceCtorEq,if_false,hr1]
          · simp only [put_apply,reduceCtorEq,if_false,hr2]
          · simp only [put_apply,if_true]
          · have e2 : so s1.rs.tail = _ := e2
            have := hQ ts' H' a
            rw [namesF,if_pos e,if_pos e2] at this
            refine this ?_ d k
            rw [List.append_assoc] at b; exact b
        · walk_at "X"
          refine hP _ _ ?_
          walk_at "X"
          have e2 : so s1.rs.tail ≠ _ := e2
          have := hQ (ts ++ [tk]) (put H2 nm (.list (ts.map V.ref ++ [V.ref tk]))) (by rw [List.map_append]; exact put_same)
          rw [namesF,if_pos e,if_neg e2] at this
          exact this hT3 hS3 hk3
      · walk_at "X"
        have := hQ ts H2 (hk2 _ _ hnm1 (hS1.nml hnm1 hrw))
        rw [namesF,if_neg e] at this
        exact this (by rw [List.append_nil]; exact hT.keep hS1 hk2) hS2 (hk.trans hk2)
  exact main n s [] [] _ _ hn (by simpa using hn2) (hS.new hnm) (Kp.new hnm) put_same trivial rfl rfl rfl fun ts' H' a b d k => h nm ts' H' hnm a b d k
end
end
section
section
variable {sp : Sp} (hC : Calls sp) {c : Cx} {T : Tab} {s : PS} {H : AH} {Q : Post} (hS : RS c s H) (hE : Env c T H)
include hC hS hE
theorem c_qualident (hi : so s.rs = [105,100,101,110,116]) (hN : ∀ s' H',typeP T s = (T.ti,s') → RS c s' H' → Kp c H H' → Q .none H')
    (hO : ∀ o m k s1 H',H' o = some (.inst .c_Obj m) → lk m .n_kind = some (.str k) → RS c s1 H' → Kp c H H' →
      ((k = [116,121,112,101] ∧ ∃ a,lk m .n_type = some (.ref a) ∧ ((TyOk T H' a ∧ typeP T s = (a,s1)) ∨ (∃ m2,H' a = some (.inst .c_Type m2) ∧ lk m2 .n_form = some (.str [110,111,110,101]) ∧ typeP T s = (T.ti,markS s1 (spo s.rs) [114,101,99,117,114,115,105,118,101,95,116,121,112,101])))) ∨
       (k ≠ [116,121,112,101] ∧ typeP T s = (T.ti,markS s1 (spo s.rs) [110,111,116,95,97,95,116,121,112,101]))) → Q (.ref o) H') : sp .f_qualident [.ref c.rd] H Q := by
  refine hC _ _ [] _ _ rfl ?_
  obtain ⟨tk0,hrd,-⟩ := hS.tk
  simp only [Fn.body,Fn.params,rhoOf,List.cons_append,List.nil_append]
  (unfold b_qualident; walk_at "X")
  refine c_rname hC hS (fun _ tk H1 htk hS1 hk1 => ?_) fun e => absurd hi e
  obtain ⟨tk1,hrd1,-⟩ := hS1.tk
  have hE1 := hE.keep hS hk1
  obtain ⟨⟨st,scs,m,f1,f2,f3,f4,f5,f6,f7,f8⟩,-⟩ := id hE1
  have her := hS1.er
  walk_at "X"
  refine c_sfind hC f1 f3 f5 f7 ?_
  have hid := hS.idv hi
  have hD := f8 _ hid
  rw [typeP,if_pos hi] at hN hO
  generalize look scs (sg s.rs) = lv at hD ⊢
  generalize T.U (sg s.rs) = u at hD hN hO
  cases hD with
  | un =>
    simp only [Option.getD]
    walk_at "X"
    refine c_mark hC hS1 hS.spot fun H2 hS2 hk2 => ?_
    walk_at "X"
    exact hN _ _ rfl hS2 (hk1.trans hk2)
  | nat o m k h1 h2 h3 h4 =>
    simp only [Option.getD]
    walk_at "X"
    exact hO o m k _ _ h1 h2 hS1 hk1 (.inr ⟨h3,rfl⟩)
  | rc o a m m2 h1 h2 h3 h4 h5 =>
    simp only [Option.getD]
    walk_at "X"
    exact hO o m _ _ _ h1 h2 hS1 hk1 (.inl ⟨rfl,a,h3,.inr ⟨m2,h4,h5,rfl⟩⟩)
  | ty o a m h1 h2 h3 h4 =>
    simp only [Option.getD]
    walk_at "X"
    exact hO o m _ _ _ h1 h2 hS1 hk1 (.inl ⟨rfl,a,h3,.inl ⟨h4,rfl⟩⟩)
  | mo o i ol m m2 vs h1 h2 h3 h4 h5 h6 h7 h8 h9 =>
    simp only [Option.getD]
    walk_at "X"
    dsimp only at hN hO
    refine c_rexpect hC hS1 (by decide) (by decide) (by decide) (fun e H2 hS2 hk2 => ?_) fun e H2 hS2 hk2 => ?_
    · obtain ⟨tk2,hrd2,-⟩ := hS2.tk
      have e : so s.rs.tail = _ := e
      rw [if_pos e] at hN hO
      walk_at "X"
      refine c_rname hC hS2 (fun e2 t3 H3 ht3 hS3 hk3 => ?_) fun e2 H3 hS3 hk3 => ?_
      · obtain ⟨tk3,hrd3,-⟩ := hS3.tk
        have e2' : so s.rs.tail.tail = _ := e2
        rw [if_pos e2'] at hN hO
        have kk := hk2.trans hk3
        have g1 := kk.get hS1 h1 rfl
        have g4 := kk.get hS1 h4 rfl
        have g8 := kk _ _ h8 (hS1.nml h8 h7)
        have her3 := hS3.er
        have hD2 := (h9 _ (hS2.idv e2)).keep hS1 kk
        walk_at "X"
        refine c_ifind hC g4 h6 g8 hD2 (fun u => ?_) fun o' m' k' p1 p2 p3 => ?_
        · walk_at "X"
          refine c_mark hC hS3 hS2.spot fun H4 hS4 hk4 => ?_
          walk_at "X"
          have u : T.U2 (sg s.rs.tail.tail) = _ := u
          rw [u] at hN
          exact hN _ _ rfl hS4 ((hk1.trans kk).trans hk4)
        · walk_at "X"
          refine hO o' m' k' _ _ p1 p2 hS3 (hk1.trans kk) ?_
          rcases p3 with ⟨q1,a,q2,q3,q4⟩ | ⟨q1,q3⟩
          · have q3 : T.U2 (sg s.rs.tail.tail) = _ := q3
            exact .inl ⟨q1,a,q2,.inl ⟨q4,by rw [q3]; rfl⟩⟩
          · have q3 : T.U2 (sg s.rs.tail.tail) = _ := q3
            exact .inr ⟨q1,by rw [q3]; rfl⟩
      · have e2 : so s.rs.tail.tail ≠ _ := e2
        rw [if_neg e2] at hN
        walk_at "X"
        exact hN _ _ rfl hS3 ((hk1.trans hk2).trans hk3)
    · have e : so s.rs.tail ≠ _ := e
      rw [if_neg e] at hN
      walk_at "X"
      exact hN _ _ rfl hS2 (hk1.trans hk2)
theorem c_type_name (h : ∀ H',RS c (typeP T s).2 H' → Kp c H H' → TyOk T H' (typeP T s).1 → Q (.ref (typeP T s).1) H') : sp .f_type_name [.ref c.rd] H Q := by
  refine hC _ _ [] _ _ rfl ?_
  obtain ⟨tk0,hrd,htk⟩ := hS.tk
  have hti : ∀ {s' H'},RS c s' H' → Kp c H H' → TyOk T H' T.ti := fun a k => by rw [hE.ti.1]; exact hE.ti.2.keep hS k
  simp only [Fn.body,Fn.params,rhoOf,List.cons_append,List.nil_append]
  (unfold b_type_name; walk_at "X")
  refine c_rat hC hS ?_
  walk_at "X"
  refine Brn.mk (fun e => ?_) fun e => ?_
  · have e := of_decide_eq_true e
    walk_at "X"
    refine c_qualident hC hS hE e (fun s' H' h1 h2 h3 => ?_) fun o m k s1 H' h1 h2 h3 h4 h5 => ?_
    · obtain ⟨tk1,hrd1,-⟩ := h2.tk
      have hty := h2.ty
      walk_at "X"
      rw [← hE.ti.1]
      have := h H'
      rw [h1] at this
      exact this h2 h3 (hti h2 h3)
    · obtain ⟨tk1,hrd1,-⟩ := h3.tk
      have hty := h3.ty
      have her := h3.er
      walk_at "X"
      rcases h5 with ⟨rfl,a,p1,p2⟩ | ⟨p1,p2⟩
      · walk_at "X"
        rcases p2 with ⟨⟨mt,l,q1,q2,q3,q4,q5⟩,q6⟩ | ⟨m2,q1,q2,q3⟩
        · have nn : T.form a ≠ [110,111,110,101] := fun z => by rw [z] at q5; revert q5; decide
          walk_at "X"
          have := h H'
          rw [q6] at this
          exact this h3 h4 ⟨mt,l,q1,q2,q3,q4,q5⟩
        · walk_at "X"
          refine c_mark hC h3 hS.spot fun H2 hS2 hk2 => ?_
          obtain ⟨tk2,hrd2,-⟩ := hS2.tk
          have hty2 := hS2.ty
          walk_at "X"
          have := h H2
          rw [q3,hE.ti.1] at this
          exact this hS2 (h4.trans hk2) (hE.ti.1 ▸ hti hS2 (h4.trans hk2))
      · walk_at "X"
        refine c_mark hC h3 hS.spot fun H2 hS2 hk2 => ?_
        obtain ⟨tk2,hrd2,-⟩ := hS2.tk
        have hty2 := hS2.ty
        walk_at "X"
        have := h H2
        rw [p2,hE.ti.1] at this
        exact this hS2 (h4.trans hk2) (hE.ti.1 ▸ hti hS2 (h4.trans hk2))
  · have e : so s.rs ≠ _ := fun z => e (decide_eq_true z)
    walk_at "X"
    refine c_rmark hC hS fun H2 hS2 hk2 => ?_
    obtain ⟨tk2,hrd2,-⟩ := hS2.tk
    have hty2 := hS2.ty
    walk_at "X"
    have := h H2
    rw [typeP,if_neg e,hE.ti.1] at this
    exact this hS2 hk2 (hE.ti.1 ▸ hti hS2 hk2)
end
end
section
def KpX (xs : List Addr) (H H' : AH) : Prop := ∀ a o,H a = some o → a ∉ xs → H' a = some o
theorem KpX.refl {xs : List Addr} {H : AH} : KpX xs H H := fun _ _ h _ => h
theorem KpX.trans {xs : List Addr} {H H1 H2 : AH} (h : KpX xs H H1) (h2 : KpX xs H1 H2) : KpX xs H H2 := fun a o e n => h2 a o (h a o e n) n
theorem KpX.mono {xs ys : List Addr} {H H1 : AH} (h : KpX xs H H1) (hs : ∀ x ∈ xs,x ∈ ys) : KpX ys H H1 := fun a o e n => h a o e fun q => n (hs a q)
theorem KpX.putf {xs : List Addr} {H H' : AH} (h : KpX xs H H') {a : Addr} {o : O} (ha : H a = none) : KpX xs H (put H' a o) := fun b o' e n => pt (h b o' e n) (nf e ha)
theorem KpX.putm {xs : List Addr} {H H' : AH} (h : KpX xs H H') {a : Addr} {o : O} (ha : a ∈ xs) : KpX xs H (put H' a o) := fun b o' e n => pt (h b o' e n) fun z => n (z ▸ ha)
theorem KpX.fr {xs : List Addr} {H H' : AH} (h : KpX xs H H') {a : Addr} (ha : H' a = none) (hx : a ∉ xs) : H a = none := by
  cases e : H a with
  | none => rfl
  | some o => rw [h a o e hx] at ha; cases ha
theorem lk_sset_same {α β : Type} [DecidableEq α] : ∀ (m : List (α × β)) (x : α) (v : β),lk (sset m x v) x = some v
  | [],x,v => by simp [sset,lk]
  | (y,u) :: r,x,v => by
    unfold sset; split
    · next e => simp [lk,e]
    · next e => simp only [lk,if_neg e]; exact lk_sset_same r x v
theorem lk_sset_ne {α β : Type} [DecidableEq α] : ∀ (m : List (α × β)) {x z : α} (v : β),z ≠ x → lk (sset m x v) z = lk m z
  | [],x,z,v,h => by simp [sset,lk,Ne.symm h]
  | (y,u) :: r,x,z,v,h => by
    unfold sset; split
    · next e => subst e; simp only [lk,if_neg (Ne.symm h)]
    · next e => simp only [lk]; rw [lk_sset_ne r v h]
abbrev typeO (n : Int) (form : Tx) (size : Int) (base : V) (len : Int) (f p q : Addr) (md lb : Tx) : O :=
  .inst .c_Type [(.n_number,.int n),(.n_form,.str form),(.n_size,.int size),(.n_base,base),(.n_length,.int len),(.n_fields,.ref f),(.n_level,.int 0),(.n_params,.ref p),(.n_module,.str md),(.n_label,.str lb),(.n_hidden,.ref q),(.n_exno,.int 0)]
section
variable {sp : Sp} (hC : Calls sp) {H : AH} {Q : Post}
include hC
theorem c_newType {n sz : Int} {form : Tx} (h : ∀ b f p q H',H b = none → H' b = some (typeO n form sz .none 0 f p q [] []) → KpX [] H H' → Q (.ref b) H') : New sp .c_Type [.int n,.str form,.int sz] H Q ⟨⟩ := by
  intro b hb
  refine hC .f_Type_init _ [] _ _ rfl ?_
  simp only [Fn.body,Fn.params,rhoOf,List.cons_append,List.nil_append]
  (unfold b_Type_init; walk_at "X")
  intro f hf
  have hf0 : H f = none := KpX.fr (xs := []) (by repeat' (first | exact KpX.refl | refine KpX.putf ?_ (by assumption))) hf (by simp)
  have nb := Ne.symm (fresh_put hf).2
  walk_at "X"
  intro p hp
  have hp0 : H p = none := KpX.fr (xs := []) (by repeat' (first | exact KpX.refl | refine KpX.putf ?_ (by assumption))) hp (by simp)
  have nbp := Ne.symm (fresh_put hp).2
  walk_at "X"
  intro q hq
  have hq0 : H q = none := KpX.fr (xs := []) (by repeat' (first | exact KpX.refl | refine KpX.putf ?_ (by assumption))) hq (by simp)
  have nbq := Ne.symm (fresh_put hq).2
  walk_at "X"
  simp only [true_and]
  exact h b f p q _ hb put_same (by repeat' (first | exact KpX.refl | refine KpX.putf ?_ (by assumption)))
theorem c_Types_newB {ty kn : Addr} {m : List (N × V)} {k : Int} {d : Nat} {form md lb : Tx} {sz : Int} (h1 : H ty = some (.inst .c_Types m)) (h2 : lk m .n_counter = some (.int k)) (h3 : lk m .n_known = some (.ref kn)) (h4 : H kn = some (.td d)) (h5 : d ≤ 100000) (h6 : m.length ≤ 50)
    (h : ∀ b f p q H',H b = none → H' b = some (typeO (k + 1) form sz .none 0 f p q md lb) → H' ty = some (.inst .c_Types (sset m .n_counter (.int (k + 1)))) → H' kn = some (.td (d + if lb = [] then 0 else 1)) → KpX [ty,kn] H H' → Q (.ref b) H') :
    wpSs sp Fn.f_Types_new.body (rhoOf Fn.f_Types_new.params [.ref ty,.str form,.int sz,.str md,.str lb]) H (fun fl _ H' => Q (retOf fl) H') := by
  have e2 : lk (sset m .n_counter (.int (k + 1))) .n_counter = some (.int (k + 1)) := lk_sset_same _ _ _
  have e3 : lk (sset m .n_counter (.int (k + 1))) .n_known = some (.ref kn) := by rw [lk_sset_ne _ _ (by decide)]; exact h3
  have e6 : decide (m.length ≤ 100) = true := by simp; omega
  have n0 : ty ≠ kn := nn h1 h4 nofun
  simp only [Fn.body,Fn.params,rhoOf,List.cons_append,List.nil_append]
  (unfold b_Types_new; walk_at "X")
  refine c_newType hC fun b f p q H1 hb hb1 hk => ?_
  obtain ⟨hb0,nb⟩ := fresh_put hb
  have g1 := hk _ _ put_same (by simp)
  have g4 := hk _ _ (pt h4 (Ne.symm n0)) (by simp)
  have nk := nn hb1 g4 nofun
  have nt := nn hb1 g1 nofun
  have nk' := Ne.symm nk
  have nt' := Ne.symm nt
  have hk2 : KpX [ty,kn] H H1 := (KpX.refl.putm (o := .inst .c_Types (sset m .n_counter (.int (k + 1)))) (by simp)).trans (hk.mono (by simp))
  walk_at "X"
  refine Brn.mk (fun e => ?_) fun e => ?_
  · rw [if_pos e] at h
    subst e
    walk_at "X"
    simp only [put_put]
    exact h b f p q _ hb0 put_same (pt g1 nt') (pt g4 nk') (hk2.putf hb0)
  · rw [if_neg e] at h
    walk_at "X"
    refine ⟨by omega,?_⟩
    walk_at "X"
    simp only [put_put]
    refine h b f p q _ hb0 ?_ ?_ put_same ((hk2.putf hb0).putm (by simp))
    · rw [put_ne nk,put_same]
    · exact pt (pt g1 nt') n0
theorem c_Types_new {ty kn : Addr} {m : List (N × V)} {k : Int} {d : Nat} {form md lb : Tx} {sz : Int} (h1 : H ty = some (.inst .c_Types m)) (h2 : lk m .n_counter = some (.int k)) (h3 : lk m .n_known = some (.ref kn)) (h4 : H kn = some (.td d)) (h5 : d ≤ 100000) (h6 : m.length ≤ 50)
    (h : ∀ b f p q H',H b = none → H' b = some (typeO (k + 1) form sz .none 0 f p q md lb) → H' ty = some (.inst .c_Types (sset m .n_counter (.int (k + 1)))) → H' kn = some (.td (d + if lb = [] then 0 else 1)) → KpX [ty,kn] H H' → Q (.ref b) H') :
    sp .f_Types_new [.ref ty,.str form,.int sz,.str md,.str lb] H Q := hC _ _ [] _ _ rfl (c_Types_newB hC h1 h2 h3 h4 h5 h6 h)
theorem c_Types_new3 {ty kn : Addr} {m : List (N × V)} {k : Int} {d : Nat} {form : Tx} {sz : Int} (h1 : H ty = some (.inst .c_Types m)) (h2 : lk m .n_counter = some (.int k)) (h3 : lk m .n_known = some (.ref kn)) (h4 : H kn = some (.td d)) (h5 : d ≤ 100000) (h6 : m.length ≤ 50)
    (h : ∀ b f p q H',H b = none → H' b = some (typeO (k + 1) form sz .none 0 f p q [] []) → H' ty = some (.inst .c_Types (sset m .n_counter (.int (k + 1)))) → H' kn = some (.td d) → KpX [ty,kn] H H' → Q (.ref b) H') :
    sp .f_Types_new [.ref ty,.str form,.int sz] H Q := hC _ _ [.str [],.str []] _ _ rfl (c_Types_newB hC h1 h2 h3 h4 h5 h6 (by simpa using h))
end
end
section

def TArr (H : AH) (t : Addr) (n : Nat) (el : Addr) (label : Tx) : Prop := ∃ f p q,H t = some (typeO n [97,114,114,97,121] 0 (.ref el) (-1) f p q [77] label)
theorem RS.newT {c : Cx} {s : PS} {H H' : AH} (hS : RS c s H) (h1 : H' c.ty = some (tyO c (13 + s.ar + 1 : Nat))) (h2 : H' c.kn = some (.td (6 + s.ar + 1))) (k : KpX [c.ty,c.kn] H H') : RS c { s with ar := s.ar + 1 } H' := by
  obtain ⟨⟨tk,q1,q2⟩,h3,h4,h5,h6,h7,h8,h9,h10,h11,h12,h13⟩ := id hS
  have kk : ∀ {a : Addr} {o : O},H a = some o → o ≠ tyO c (13 + s.ar : Nat) → o ≠ .td (6 + s.ar) → H' a = some o := fun ha x y => k _ _ ha (by
    simp only [List.mem_cons,List.not_mem_nil,or_false,not_or]
    exact ⟨nn ha h7 x,nn ha h8 y⟩)
  exact ⟨⟨tk,kk q1 nofun nofun,kk q2 nofun nofun⟩,kk h3 nofun nofun,kk h4 nofun nofun,kk h5 nofun nofun,kk h6 nofun nofun,h1,h2,h9,h10,h11,h12,h13⟩
theorem KpX.kp {c : Cx} {H H' : AH} (k : KpX [c.ty,c.kn] H H') : Kp c H H' := fun a o e n => k a o e fun q => n (by
  simp only [List.mem_cons,List.not_mem_nil,or_false] at q
  rcases q with q | q <;> subst q <;> simp [muts])
theorem RS.putfree {c : Cx} {s : PS} {H : AH} (h : RS c s H) {a : Addr} {m : List (N × V)} {o : O} {k : Cls} (ha : H a = some (.inst k m)) (hk : k ≠ .c_Reader ∧ k ≠ .c_Scanner ∧ k ≠ .c_Types ∧ k ≠ .c_ErrorList ∧ k ≠ .c_Token) : RS c s (Mine.put H a o) := by
  refine h.put (h.nm ha ?_) (nn ha h.er fun e => ?_) fun _ _ _ e => ?_
  · obtain ⟨a,b,d,-⟩ := hk
    cases k <;> simp_all [O.free]
  · cases e; exact hk.2.2.2.1 rfl
  · rw [ha] at e; cases e; exact hk.2.2.2.2 rfl
section
variable {sp : Sp} (hC : Calls sp) {c : Cx} {T : Tab} {s : PS} {H : AH} {Q : Post} (hS : RS c s H) (hE : Env c T H)
include hC hS hE
omit hE in
theorem c_rexp {k : Tx} (hk : k ≠ [101,111,102]) (hk2 : k ≠ [105,100,101,110,116]) (hk3 : k.length ≤ 1000) (h : ∀ b H',RS c (expS s k) H' → Kp c H H' → Q (.bool b) H') : sp .f_Reader_expect [.ref c.rd,.str k] H Q :=
  c_rexpect hC hS hk hk2 hk3 (fun e H' a b => h true H' (by rw [expS,if_pos e]; exact a) b) fun e H' a b => h false H' (by rw [expS,if_neg e]; exact a) b
theorem c_formal_type {label : Tx} (hb : s.ar + s.rs.length ≤ 1000) (hl : label ≠ []) (h : ∀ H' t,RS c { (formalP T s).2.2 with ar := (formalP T s).2.2.ar + if (formalP T s).1 then 1 else 0 } H' → Kp c H H' → TyOk T H' (formalP T s).2.1 →
      (if (formalP T s).1 then TArr H' t (13 + (s.ar + 1)) (formalP T s).2.1 label ∧ H t = none else t = (formalP T s).2.1) → Q (.ref t) H') : sp .f_formal_type [.ref c.rd,.str label] H Q := by
  refine hC _ _ [] _ _ rfl ?_
  have har := formalP_ar T s
  obtain ⟨tk0,hrd0,-⟩ := hS.tk
  simp only [Fn.body,Fn.params,rhoOf,List.cons_append,List.nil_append]
  (unfold b_formal_type; walk_at "X")
  refine c_rskip hC hS (by decide) (fun e H1 hS1 hk1 => ?_) fun e => ?_
  · rw [formalP,if_pos e] at h har
    obtain ⟨tk1,hrd1,-⟩ := hS1.tk
    walk_at "X"
    have rest : ∀ (s2 : PS) (H2 : AH),(typeP T s2).2.ar = s.ar → typeP T s2 = typeP T (openP (expS (stepS s) [79,70])) → RS c s2 H2 → Kp c H H2 → ∀ ρ : Rho,ρ .n_rd = some (.ref c.rd) → ρ .n_label = some (.str label) →
        wpSs sp [S.asg N.n_element (E.call Fn.f_type_name [E.loc N.n_rd]),
          S.asg N.n_made (E.meth Cls.c_Types ((E.loc N.n_rd).attr N.n_types) N.n_new [E.str [97,114,114,97,121],E.int 0,(E.loc N.n_rd).attr N.n_module,E.loc N.n_label]),
          S.sattr (E.loc N.n_made) N.n_base (E.loc N.n_element),S.sattr (E.loc N.n_made) N.n_length (E.neg 1),S.ret (E.loc N.n_made)] ρ H2 (fun fl x H' => Q (retOf fl) H') := by
      intro s2 H2 ha he hS2 hk2 ρ r1 r2
      obtain ⟨tk2,hrd2,-⟩ := hS2.tk
      walk_at "X"
      refine c_type_name hC hS2 (hE.keep hS hk2) fun H3 hS3 hk3 ht3 => ?_
      obtain ⟨tk3,hrd3,-⟩ := hS3.tk
      have hty := hS3.ty
      walk_at "X"
      refine c_Types_new hC hty rfl rfl hS3.kn (by omega) (by simp) fun b f p q H4 b1 b2 b3 b4 k4 => ?_
      rw [if_neg hl] at b4
      have hS4 := hS3.newT (H' := H4) (by rw [b3]; simp [sset]) b4 k4
      walk_at "X"
      have hS5 := (hS4.putfree (o := typeO ((13 + (typeP T s2).2.ar : Nat) + 1) [97,114,114,97,121] 0 (.ref (typeP T s2).1) 0 f p q [77] label) b2 (by decide))
      have hS6 := hS5.putfree (o := typeO ((13 + (typeP T s2).2.ar : Nat) + 1) [97,114,114,97,121] 0 (.ref (typeP T s2).1) (-((1 : Nat) : Int)) f p q [77] label) put_same (by decide)
      have hk6 := ((hk2.trans (hk3.trans k4.kp)).putf (o := typeO ((13 + (typeP T s2).2.ar : Nat) + 1) [97,114,114,97,121] 0 (.ref (typeP T s2).1) 0 f p q [77] label) ((hk2.trans hk3).fresh hS3 b1)).putf (o := typeO ((13 + (typeP T s2).2.ar : Nat) + 1) [97,114,114,97,121] 0 (.ref (typeP T s2).1) (-((1 : Nat) : Int)) f p q [77] label) ((hk2.trans hk3).fresh hS3 b1)
      refine h _ b ?_ hk6 ?_ ?_
      · rw [← he]; exact hS6
      · rw [← he]
        obtain ⟨mt,l,q1,q2⟩ := ht3
        refine ⟨mt,l,pt (pt (k4.kp.get hS3 q1 rfl) ?_) ?_,q2⟩ <;> exact nf q1 b1
      · simp only [if_true]
        refine ⟨⟨f,p,q,?_⟩,(hk2.trans hk3).fresh hS3 b1⟩
        rw [put_same,← he,ha]
        rfl
    have tar : ∀ s2,typeP T s2 = typeP T (openP (expS (stepS s) [79,70])) → (typeP T s2).2.ar = s.ar := fun s2 e => by rw [e]; exact har
    have mid : ∀ H2,RS c (expS (stepS s) [79,70]) H2 → Kp c H1 H2 → ∀ ρ : Rho,ρ .n_rd = some (.ref c.rd) → ρ .n_label = some (.str label) →
        wpSs sp [S.ifs (E.meth Cls.c_Reader (E.loc N.n_rd) N.n_at [E.str [65,82,82,65,89]]) [S.expr (E.meth Cls.c_Reader (E.loc N.n_rd) N.n_mark [E.str [111,112,101,110,95,97,114,114,97,121]]),
          S.whl (E.meth Cls.c_Reader (E.loc N.n_rd) N.n_skip [E.str [65,82,82,65,89]]) [S.expr (E.meth Cls.c_Reader (E.loc N.n_rd) N.n_expect [E.str [79,70]])]] [],
          S.asg N.n_element (E.call Fn.f_type_name [E.loc N.n_rd]),
          S.asg N.n_made (E.meth Cls.c_Types ((E.loc N.n_rd).attr N.n_types) N.n_new [E.str [97,114,114,97,121],E.int 0,(E.loc N.n_rd).attr N.n_module,E.loc N.n_label]),
          S.sattr (E.loc N.n_made) N.n_base (E.loc N.n_element),S.sattr (E.loc N.n_made) N.n_length (E.neg 1),S.ret (E.loc N.n_made)] ρ H2 (fun fl x H' => Q (retOf fl) H') := by
      intro H2 hS2 hk2 ρ r1 r2
      obtain ⟨tk2,hrd2,-⟩ := hS2.tk
      walk_at "X"
      refine c_rat hC hS2 ?_
      walk_at "X"
      refine Brn.mk (fun e2 => ?_) fun e2 => ?_
      · have e2 := of_decide_eq_true e2
        walk_at "X"
        refine c_rmark hC hS2 fun H3 hS3 hk3 => ?_
        walk_at "X"
        refine whl_in fun P hP => ?_
        have main : ∀ (n : Nat) (s4 : PS) (H4 : AH),s4.rs.length ≤ n → typeP T (passF n s4) = typeP T (openP (expS (stepS s) [79,70])) → RS c s4 H4 → Kp c H H4 → P ρ H4 := by
          intro n
          induction n with
          | zero =>
            intro s4 H4 hl' _ hS4
            exact absurd (List.length_eq_zero_iff.mp (Nat.le_zero.mp hl')) hS4.ne
          | succ n ih =>
            intro s4 H4 hl4 he4 hS4 hk4
            refine hP _ _ ?_
            obtain ⟨tk4,hrd4,-⟩ := hS4.tk
            walk_at "X"
            refine c_rskip hC hS4 (by decide) (fun e4 H5 hS5 hk5 => ?_) fun e4 => ?_
            · rw [passF,if_pos e4] at he4
              obtain ⟨tk5,hrd5,-⟩ := hS5.tk
              have hl5 := stepS_len (by decide) e4
              have hl6 := expS_len (stepS s4) [79,70]
              walk_at "X"
              refine c_rexp hC hS5 (by decide) (by decide) (by decide) fun b H6 hS6 hk6 => ?_
              walk_at "X"
              exact ih (expS (stepS s4) [79,70]) H6 (by omega) he4 hS6 (hk4.trans (hk5.trans hk6))
            · rw [passF,if_neg e4] at he4
              have z := rest s4 H4 (tar s4 he4) he4 hS4 hk4 ρ r1 r2
              walk_at "Z"
              exact z
        exact main _ _ _ (Nat.le_refl _) (by rw [openP,if_pos e2]; rfl) hS3 (hk1.trans (hk2.trans hk3))
      · have e2 : so (expS (stepS s) [79,70]).rs ≠ _ := fun z => e2 (decide_eq_true z)
        have he : typeP T (expS (stepS s) [79,70]) = typeP T (openP (expS (stepS s) [79,70])) := by rw [openP,if_neg e2]
        have z := rest _ H2 (tar _ he) he hS2 (hk1.trans hk2) ρ r1 r2
        walk_at "Z"
        exact z
    refine c_rexp hC hS1 (by decide) (by decide) (by decide) fun b H2 hS2 hk2 => ?_
    obtain ⟨tk2,hrd2,-⟩ := hS2.tk
    have z := mid H2 hS2 hk2 (put (put (fun _ => none) .n_label (.str label)) .n_rd (.ref c.rd)) rfl rfl
    walk_at "Z"
    exact z
  · rw [formalP,if_neg e] at h
    walk_at "X"
    refine c_type_name hC hS hE fun H1 hS1 hk1 ht1 => ?_
    refine h H1 _ ?_ hk1 ht1 rfl
    simpa using hS1
end
end
section
abbrev objO (name kind : Tx) (t : V) (p : Int) : O := .inst .c_Obj [(.n_name,.str name),(.n_kind,.str kind),(.n_type,t),(.n_place,.int p),(.n_exported,.bool false),(.n_readonly,.bool false),(.n_level,.int 0),(.n_module,.str []),
  (.n_value,.none),(.n_slot,.int 0),(.n_offset,.int 0),(.n_number,.int 0),(.n_isparam,.bool false),(.n_narrowed,.none)]
abbrev parO (name kind : Tx) (t : Addr) (p : Int) (ro : Bool) (lv sl : Int) : O := .inst .c_Obj [(.n_name,.str name),(.n_kind,.str kind),(.n_type,.ref t),(.n_place,.int p),(.n_exported,.bool false),(.n_readonly,.bool ro),(.n_level,.int lv),(.n_module,.str [77]),
  (.n_value,.none),(.n_slot,.int sl),(.n_offset,.int 0),(.n_number,.int 0),(.n_isparam,.bool true),(.n_narrowed,.none)]
def NOk (H : AH) (a : Addr) (n : Tx) : Prop := ∃ m,H a = some (.inst .c_Obj m) ∧ lk m .n_name = some (.str n)
def WOk (H : AH) (a : Addr) (w : Nat) : Prop := ∃ m k tt mt f l,H a = some (.inst .c_Obj m) ∧ lk m .n_kind = some (.str k) ∧ lk m .n_type = some (.ref tt) ∧ H tt = some (.inst .c_Type mt) ∧ lk mt .n_form = some (.str f) ∧ lk mt .n_length = some (.int l) ∧
  w = if k = [112,97,114] ∧ (f = [114,101,99,111,114,100] ∨ (f = [97,114,114,97,121] ∧ l < 0)) then 2 else 1
section
variable {sp : Sp} (hC : Calls sp) {H : AH} {Q : Post}
include hC
theorem c_newObj {name kind : Tx} {t : V} {p : Int} (h : ∀ a,H a = none → Q (.ref a) (put H a (objO name kind t p))) : New sp .c_Obj [.str name,.str kind,t,.int p] H Q ⟨⟩ := by
  intro b hb
  refine hC .f_Obj_init _ [] _ _ rfl ?_
  simp only [Fn.body,Fn.params,rhoOf,List.cons_append,List.nil_append]
  (unfold b_Obj_init; walk_at "X")
  simp only [put_put,true_and]
  exact h b hb
theorem c_param_words {a : Addr} {w : Nat} (hw : WOk H a w) (h : Q (.int w) H) : sp .f_param_words [.ref a] H Q := by
  refine hC _ _ [] _ _ rfl ?_
  obtain ⟨m,k,tt,mt,f,l,h1,h2,h3,h4,h5,h6,rfl⟩ := hw
  simp only [Fn.body,Fn.params,rhoOf,List.cons_append,List.nil_append]
  (unfold b_param_words; walk_at "X")
  refine Brn.mk (fun e => ?_) fun e => ?_
  · walk_at "X"
    refine Brn.mk (fun e2 => ?_) fun e2 => ?_
    · walk_at "X"
      rw [if_pos ⟨e,.inl e2⟩] at h
      exact h
    · walk_at "X"
      refine Brn.mk (fun e3 => ?_) fun e3 => ?_
      · walk_at "X"
        refine Brn.mk (fun e4 => ?_) fun e4 => ?_
        · walk_at "X"
          rw [if_pos ⟨e,.inr ⟨e3,e4⟩⟩] at h
          exact h
        · walk_at "X"
          rw [if_neg fun q => q.2.elim e2 fun z => e4 z.2] at h
          exact h
      · walk_at "X"
        rw [if_neg fun q => q.2.elim e2 fun z => e3 z.1] at h
        exact h
  · walk_at "X"
    rw [if_neg fun q => e q.1] at h
    exact h
theorem c_words_of {fd : Addr} {F : List (Addr × Nat)} (hf : H fd = some (.list (F.map fun x => .ref x.1))) (hw : ∀ x ∈ F,WOk H x.1 x.2) (h : Q (.int ((F.map Prod.snd).sum : Nat)) H) : sp .f_words_of [.ref fd] H Q := by
  refine hC _ _ [] _ _ rfl ?_
  simp only [Fn.body,Fn.params,rhoOf,List.cons_append,List.nil_append]
  (unfold b_words_of; walk_at "X")
  have main : ∀ (G : List (Addr × Nat)) (n : Nat) (ρ : Rho),(∀ x ∈ G,WOk H x.1 x.2) → ρ .n_total = some (.int n) → n + (G.map Prod.snd).sum = (F.map Prod.snd).sum →
      FL (srcB (.ref fd) (F.map fun x => .ref x.1)) (asgB .n_par) (bodyB sp [.aug .n_total (E.call .f_param_words [(E.loc .n_par)])]) (G.map fun x => .ref x.1) ρ H (seqK sp [S.ret (E.loc N.n_total)] fun fl _ H' => Q (retOf fl) H') ⟨⟩ := by
    intro G
    induction G with
    | nil =>
      intro n ρ _ hr e
      refine fl_nil (by simp only [srcB,itemsOfV,hf]) ?_
      walk_at "X"
      simp only [List.map_nil,List.sum_nil,Nat.add_zero] at e
      rw [e]; exact h
    | cons x G ih =>
      intro n ρ hG hr e
      refine fl_cons (by simp only [srcB,itemsOfV,hf]) rfl ?_
      walk_at "X"
      refine c_param_words hC (hG x List.mem_cons_self) ?_
      walk_at "X"
      refine ih (n + x.2) _ (fun y hy => hG y (List.mem_cons_of_mem _ hy)) ?_ ?_
      · simp only [put_apply,if_true,reduceCtorEq,if_false]; rfl
      · simp only [List.map_cons,List.sum_cons] at e; omega
  exact main F 0 _ hw rfl (by simp)
end
end
section

def Fz (H H' : AH) : Prop := ∀ a k m,H a = some (.inst k m) → (k = .c_Obj ∨ k = .c_Type) → H' a = some (.inst k m)
theorem Fz.refl {H : AH} : Fz H H := fun _ _ _ h _ => h
theorem Fz.trans {H H1 H2 : AH} (a : Fz H H1) (b : Fz H1 H2) : Fz H H2 := fun x k m h z => b x k m (a x k m h z) z
theorem Kp.fz {c : Cx} {s : PS} {H H' : AH} (hS : RS c s H) (k : Kp c H H') : Fz H H' := fun a x m h z => k.get hS h (by rcases z with rfl | rfl <;> rfl)
theorem Fz.put {H : AH} {a : Addr} {o : O} (h : ∀ k m,H a = some (.inst k m) → k ≠ .c_Obj ∧ k ≠ .c_Type) : Fz H (put H a o) := fun b k m e z => pt e fun q => by
  subst q; obtain ⟨x,y⟩ := h k m e; rcases z with z | z
  · exact x z
  · exact y z
theorem Fz.new {H : AH} {a : Addr} {o : O} (h : H a = none) : Fz H (Mine.put H a o) := Fz.put fun k m e => by rw [h] at e; cases e
theorem Fz.putl {H : AH} {a : Addr} {o : O} {xs : List V} (h : H a = some (.list xs)) : Fz H (Mine.put H a o) := Fz.put fun k m e => by rw [h] at e; cases e
theorem NOk.fz {H H' : AH} (z : Fz H H') {a : Addr} {n : Tx} (h : NOk H a n) : NOk H' a n := by obtain ⟨m,e,f⟩ := h; exact ⟨m,z _ _ _ e (.inl rfl),f⟩
theorem WOk.fz {H H' : AH} (z : Fz H H') {a : Addr} {n : Nat} (h : WOk H a n) : WOk H' a n := by
  obtain ⟨m,k,tt,mt,f,l,h1,h2,h3,h4,h5⟩ := h; exact ⟨m,k,tt,mt,f,l,z _ _ _ h1 (.inl rfl),h2,h3,z _ _ _ h4 (.inr rfl),h5⟩
theorem TyOk.fz {T : Tab} {H H' : AH} (z : Fz H H') {a : Addr} (h : TyOk T H a) : TyOk T H' a := by obtain ⟨m,l,e,f⟩ := h; exact ⟨m,l,z _ _ _ e (.inr rfl),f⟩
theorem TArr.fz {H H' : AH} (z : Fz H H') {a el : Addr} {n : Nat} {lb : Tx} (h : TArr H a n el lb) : TArr H' a n el lb := by obtain ⟨f,p,q,e⟩ := h; exact ⟨f,p,q,z _ _ _ e (.inr rfl)⟩
def PT (T : Tab) (label : Tx) (H : AH) (tt : Addr) (which : Nat) (t : Addr) (owner : Tx) : Prop := (if 0 < which then TArr H tt (13 + which) t (label ++ [40] ++ owner) else tt = t) ∧ TyOk T H t
theorem PT.fz {T : Tab} {label : Tx} {H H' : AH} (z : Fz H H') {tt t : Addr} {w : Nat} {ow : Tx} (h : PT T label H tt w t ow) : PT T label H' tt w t ow := by
  refine ⟨?_,h.2.fz z⟩
  have := h.1
  split
  · next e => rw [if_pos e] at this; exact this.fz z
  · next e => rw [if_neg e] at this; exact this
def wOf (T : Tab) (which : Nat) (t : Addr) : Nat := if 0 < which ∨ T.form t = [114,101,99,111,114,100] then 2 else 1
def PR (T : Tab) (label : Tx) (H : AH) (a : Addr) (p : Par) (slot : Nat) : Prop := ∃ tt,H a = some (parO p.name p.kind tt p.loc p.closed T.lv slot) ∧ PT T label H tt p.which p.t p.owner ∧ ((0 < p.which ∨ T.form p.t = [114,101,99,111,114,100]) → p.kind = [112,97,114])
theorem PR.fz {T : Tab} {label : Tx} {H H' : AH} (z : Fz H H') {a : Addr} {p : Par} {n : Nat} (h : PR T label H a p n) : PR T label H' a p n := by
  obtain ⟨tt,e,f,g⟩ := h; exact ⟨tt,z _ _ _ e (.inl rfl),f.fz z,g⟩
theorem PT.wok {T : Tab} {label : Tx} {H : AH} {tt t : Addr} {w : Nat} {ow : Tx} (h : PT T label H tt w t ow) {a : Addr} {m : List (N × V)} {k : Tx} (h1 : H a = some (.inst .c_Obj m)) (h2 : lk m .n_kind = some (.str k)) (h3 : lk m .n_type = some (.ref tt))
    (hk : (0 < w ∨ T.form t = [114,101,99,111,114,100]) → k = [112,97,114]) : WOk H a (wOf T w t) := by
  obtain ⟨h,mt,l,t1,t2,t3,t4,t5⟩ := h
  by_cases hw : 0 < w
  · rw [if_pos hw] at h
    obtain ⟨f,p,q,e⟩ := h
    refine ⟨m,k,tt,_,_,_,h1,h2,h3,e,rfl,rfl,?_⟩
    rw [wOf,if_pos (.inl hw),if_pos ⟨hk (.inl hw),.inr ⟨rfl,by decide⟩⟩]
  · rw [if_neg hw] at h
    subst h
    refine ⟨m,k,tt,mt,_,l,h1,h2,h3,t1,t2,t4,?_⟩
    unfold wOf
    by_cases hf : T.form tt = [114,101,99,111,114,100]
    · rw [if_pos (.inr hf),if_pos ⟨hk (.inr hf),.inl hf⟩]
    · rw [if_neg (fun z => z.elim hw hf),if_neg]
      rintro ⟨-,z | ⟨-,z⟩⟩
      · exact hf z
      · omega
def PRs (T : Tab) (label : Tx) (H : AH) : Nat → List Addr → List Par → Prop
  | _,[],[] => True
  | n,a :: as,p :: ps => PR T label H a p n ∧ PRs T label H (n + 1) as ps
  | _,_,_ => False
theorem PRs.fz {T : Tab} {label : Tx} {H H' : AH} (z : Fz H H') : ∀ {n : Nat} {as : List Addr} {ps : List Par},PRs T label H n as ps → PRs T label H' n as ps
  | _,[],[],_ => trivial
  | _,_ :: _,_ :: _,h => ⟨h.1.fz z,PRs.fz z h.2⟩
theorem PRs.snoc {T : Tab} {label : Tx} {H : AH} : ∀ {n : Nat} {as : List Addr} {ps : List Par} {a : Addr} {p : Par},PRs T label H n as ps → PR T label H a p (n + as.length) → PRs T label H n (as ++ [a]) (ps ++ [p])
  | _,[],[],_,_,_,h => ⟨h,trivial⟩
  | n,_ :: as,_ :: _,_,_,h,h2 => ⟨h.1,PRs.snoc h.2 (by rw [List.length_cons] at h2; rwa [Nat.add_assoc,Nat.add_comm 1])⟩
theorem PRs.len {T : Tab} {label : Tx} {H : AH} : ∀ {n : Nat} {as : List Addr} {ps : List Par},PRs T label H n as ps → as.length = ps.length
  | _,[],[],_ => rfl
  | _,_ :: _,_ :: _,h => by simp [PRs.len h.2]
def ents (T : Tab) : List Addr → List Par → List (Addr × Tx × Nat)
  | a :: as,p :: ps => (a,p.name,wOf T p.which p.t) :: ents T as ps
  | _,_ => []
theorem ents_ok {T : Tab} {label : Tx} {H : AH} : ∀ {n : Nat} {as : List Addr} {ps : List Par},PRs T label H n as ps → (∀ x ∈ ents T as ps,NOk H x.1 x.2.1 ∧ WOk H x.1 x.2.2) ∧ (ents T as ps).map Prod.fst = as ∧ (ents T as ps).map (fun x => x.2.1) = ps.map Par.name ∧
    ((ents T as ps).map fun x => x.2.2) = ps.map fun p => wOf T p.which p.t
  | _,[],[],_ => ⟨fun _ h => (nomatch h),rfl,rfl,rfl⟩
  | _,a :: as,p :: ps,h => by
    obtain ⟨i1,i2,i3,i4⟩ := ents_ok h.2
    refine ⟨fun x hx => ?_,by simp [ents,i2],by simp [ents,i3],by simp [ents,i4]⟩
    rcases List.mem_cons.mp hx with rfl | hx
    · obtain ⟨⟨tt,e,f,g⟩,-⟩ := h
      exact ⟨⟨_,e,rfl⟩,f.wok e rfl rfl g⟩
    · exact i1 x hx
structure FI (c : Cx) (T : Tab) (label : Tx) (pre : List Addr) (taken : Bool) (fd : Addr) (q : QS) (H : AH) : Prop where
  ne : fd ≠ c.rw
  tk : taken = decide (pre ≠ [])
  pr : ∀ a ∈ pre,NOk H a [97,48] ∧ WOk H a 2
  ps : ∃ ps,H fd = some (.list ((pre ++ ps).map V.ref)) ∧ PRs T label H pre.length ps q.pars
  wd : q.words = 2 * pre.length + (q.pars.map fun p => wOf T p.which p.t).sum
  ln : q.pars.length + pre.length ≤ 100000
theorem FI.keep {c : Cx} {T : Tab} {label : Tx} {pre : List Addr} {taken : Bool} {fd : Addr} {q q' : QS} {H H' : AH} (h : FI c T label pre taken fd q H) (z : Fz H H') (e : H' fd = H fd) (e1 : q'.pars = q.pars) (e2 : q'.words = q.words) : FI c T label pre taken fd q' H' := by
  obtain ⟨h1,h2,h3,⟨ps,h4,h5⟩,h6,h7⟩ := h
  exact ⟨h1,h2,fun a ha => ⟨(h3 a ha).1.fz z,(h3 a ha).2.fz z⟩,⟨ps,e.trans h4,by rw [e1]; exact h5.fz z⟩,by rw [e1,e2]; exact h6,by rw [e1]; exact h7⟩
theorem FI.all {c : Cx} {T : Tab} {label : Tx} {pre : List Addr} {taken : Bool} {fd : Addr} {q : QS} {H : AH} (h : FI c T label pre taken fd q H) : ∃ F : List (Addr × Tx × Nat),H fd = some (.list (F.map fun x => V.ref x.1)) ∧ (∀ x ∈ F,NOk H x.1 x.2.1 ∧ WOk H x.1 x.2.2) ∧
    (∀ n : Tx,n ∈ F.map (fun x => x.2.1) ↔ tkn taken q.pars n = true) ∧ (F.map fun x => x.2.2).sum = q.words ∧ F.length = pre.length + q.pars.length := by
  obtain ⟨h1,h2,h3,⟨ps,h4,h5⟩,h6,h7⟩ := h
  obtain ⟨e1,e2,e3,e4⟩ := ents_ok h5
  refine ⟨pre.map (fun a => (a,[97,48],2)) ++ ents T ps q.pars,?_,?_,?_,?_,?_⟩
  · rw [h4,List.map_append,List.map_append,List.map_map]
    congr 3
    conv => lhs; rw [← e2,List.map_map]
    rfl
  · intro x hx
    rcases List.mem_append.mp hx with hx | hx
    · obtain ⟨a,ha,rfl⟩ := List.mem_map.mp hx
      exact h3 a ha
    · exact e1 x hx
  · intro n
    rw [List.map_append,List.mem_append,e3,List.map_map,tkn,h2]
    simp only [Bool.or_eq_true,Bool.and_eq_true,decide_eq_true_eq]
    constructor
    · rintro (h | h)
      · obtain ⟨a,ha,e⟩ := List.mem_map.mp h
        exact .inr ⟨(fun z => by rw [z] at ha; cases ha),e.symm⟩
      · exact .inl h
    · rintro (h | ⟨h,e⟩)
      · exact .inr h
      · cases pre with
        | nil => exact absurd rfl h
        | cons a r => subst e; exact .inl (List.mem_map.mpr ⟨a,List.mem_cons_self,rfl⟩)
  · rw [List.map_append,e4,List.sum_append,h6,List.map_map]
    congr 1
    clear h3 h4 h5 h6 h2 h7
    induction pre with
    | nil => rfl
    | cons a r i => simp only [List.map_cons,List.sum_cons,i,Function.comp,List.length_cons]; omega
  · have : (ents T ps q.pars).length = q.pars.length := by rw [← List.length_map (f := fun x => x.2.1),e3,List.length_map]
    simp [this]
theorem listM_names {H : AH} : ∀ {F : List (Addr × Tx × Nat)},(∀ x ∈ F,NOk H x.1 x.2.1 ∧ WOk H x.1 x.2.2) → listM (attrOf H .n_name) (F.map fun x => V.ref x.1) = some (F.map fun x => V.str x.2.1)
  | [],_ => rfl
  | x :: F,h => by
    obtain ⟨m,e,f⟩ := (h x List.mem_cons_self).1
    have e1 : attrOf H .n_name (.ref x.1) = some (.str x.2.1) := by
      simp only [attrOf,e,f]; rfl
    simp only [List.map_cons,listM,e1,listM_names fun y hy => h y (List.mem_cons_of_mem _ hy)]
theorem listM_str : ∀ (l : List Tx),listM strOf (l.map V.str) = some l
  | [] => rfl
  | x :: l => by simp only [List.map_cons,listM,strOf,listM_str l]
end
section

def KpS (c : Cx) (fd : Addr) (H H' : AH) : Prop := ∀ a o,H a = some o → a ∉ muts c → a ≠ fd → H' a = some o
theorem KpS.refl {c : Cx} {fd : Addr} {H : AH} : KpS c fd H H := fun _ _ h _ _ => h
theorem KpS.trans {c : Cx} {fd : Addr} {H H1 H2 : AH} (h : KpS c fd H H1) (h2 : KpS c fd H1 H2) : KpS c fd H H2 := fun a o e n m => h2 a o (h a o e n m) n m
theorem Kp.s {c : Cx} {fd : Addr} {H H1 : AH} (h : Kp c H H1) : KpS c fd H H1 := fun a o e n _ => h a o e n
theorem KpS.putf {c : Cx} {fd : Addr} {H H' : AH} (h : KpS c fd H H') {a : Addr} {o : O} (ha : H a = none) : KpS c fd H (put H' a o) := fun b o' e n m => pt (h b o' e n m) (nf e ha)
theorem KpS.putd {c : Cx} {fd : Addr} {H H' : AH} (h : KpS c fd H H') {o : O} : KpS c fd H (put H' fd o) := fun b o' e n m => pt (h b o' e n m) m
theorem KpS.fz {c : Cx} {fd : Addr} {s : PS} {H H' : AH} {xs : List V} (k : KpS c fd H H') (hS : RS c s H) (hf : H fd = some (.list xs)) : Fz H H' := fun a x m h z =>
  k a _ h (hS.nm h (by rcases z with rfl | rfl <;> rfl)) (nn h hf nofun)
theorem e_iteor {sp : Sp} {ρ : Rho} {x y : N} {a b : Tx} {i j : Bool} {H : AH} {Q : Post} (hx : Yes (ρ x = some (.bool i))) (hy : Yes (ρ y = some (.bool j))) : wpE sp ρ (.ite (.or [.loc x,.loc y]) (.str a) (.str b)) H Q = Q (.str (if (i || j) = true then a else b)) H := by
  cases i <;> cases j <;> simp [wpE,wpT,wpAnyT,hx.h,hy.h]
theorem e_itel {sp : Sp} {ρ : Rho} {x : N} {a b : E} {i : Bool} {H : AH} {Q : Post} (hx : Yes (ρ x = some (.bool i))) : wpE sp ρ (.ite (.loc x) a b) H Q = Brn (i = true) (wpE sp ρ a H Q) (wpE sp ρ b H Q) ⟨⟩ ⟨⟩ := by
  rw [e_ite,t_loc hx]
theorem e_andnot {sp : Sp} {ρ : Rho} {x y : N} {i j : Bool} {H : AH} {Q : Post} (hx : Yes (ρ x = some (.bool i))) (hy : Yes (ρ y = some (.bool j))) : wpE sp ρ (.and [.loc x,.not (.loc y)]) H Q = Q (.bool (i && !j)) H := by
  cases i <;> cases j <;> simp [wpE,wpAnd,hx.h,hy.h]
def enB : List S := [.ifs (E.cmp .isin (E.attr (E.loc .n_token) .n_value) (E.compA (E.loc .n_found) .n_par .n_name)) [.expr (E.meth .c_ErrorList (E.attr (E.loc .n_rd) .n_errors) .n_mark [(E.attr (E.loc .n_token) .n_place),(E.str [100,101,102,105,110,101,100,95,116,119,105,99,101])])] [.asg .n_par (E.new .c_Obj [(E.attr (E.loc .n_token) .n_value),(E.ite (E.or [(E.loc .n_variable),(E.loc .n_structured)]) (E.str [112,97,114]) (E.str [118,97,114])),(E.loc .n_t),(E.attr (E.loc .n_token) .n_place)]),.sattr (E.loc .n_par) .n_readonly (E.and [(E.loc .n_structured),(E.not (E.loc .n_variable))]),.sattr (E.loc .n_par) .n_isparam (E.bool true),.sattr (E.loc .n_par) .n_module (E.attr (E.loc .n_rd) .n_module),.sattr (E.loc .n_par) .n_level (E.attr (E.attr (E.loc .n_rd) .n_scopes) .n_level),.sattr (E.loc .n_par) .n_slot (E.bi .b_len [(E.loc .n_found)]),.expr (E.append (E.loc .n_found) (E.loc .n_par)),.ifs (E.cmp .gt (E.call .f_words_of [(E.loc .n_found)]) (E.gint (Str.ofString "MOST_WORDS") 60)) [.expr (E.meth .c_ErrorList (E.attr (E.loc .n_rd) .n_errors) .n_mark [(E.attr (E.loc .n_token) .n_place),(E.str [116,111,111,95,108,97,114,103,101])])] []]]
theorem nf_mono {H H' : AH} {a : Addr} (h : ∀ o,H a = some o → H' a ≠ none) (e : H' a = none) : H a = none := by
  cases q : H a with
  | none => rfl
  | some o => exact absurd e (h o q)
section
variable {sp : Sp} (hC : Calls sp) {c : Cx} {T : Tab} {label : Tx} {pre : List Addr} {taken : Bool} {fd nm : Addr} {h : Hd} {vr st : Bool} {tt : Addr} {all : List V} {K : SPost}
include hC
theorem c_enter1 {t0 : Addr} {x : Tx × Nat} {q : QS} {H : AH} {ρ : Rho} (hk : h.kind = if vr || st then [112,97,114] else [118,97,114]) (hcl : h.closed = (st && !vr)) (hw : h.w = wOf T h.which h.t) (hpk : (0 < h.which ∨ T.form h.t = [114,101,99,111,114,100]) → st = true)
    (ht : H t0 = some (tokO [105,100,101,110,116] (.str x.1) x.2)) (hS : RS c q.ps H) (hF : FI c T label pre taken fd q H) (hP : PT T label H tt h.which h.t h.owner) (hx : x.2 ≤ c.src.length) (hlv : ∃ m,H c.ss = some (.inst .c_Scopes m) ∧ lk m .n_level = some (.int T.lv))
    (hb : q.pars.length + 1 + pre.length ≤ 100000)
    (r1 : ρ .n_rd = some (.ref c.rd)) (r2 : ρ .n_found = some (.ref fd)) (r3 : ρ .n_variable = some (.bool vr)) (r4 : ρ .n_structured = some (.bool st)) (r5 : ρ .n_t = some (.ref tt)) (r6 : ρ .n_token = some (.ref t0))
    (k : ∀ ρ' H',(∀ n,n ≠ .n_par → ρ' n = ρ n) → RS c (enterP taken h [x] q).ps H' → FI c T label pre taken fd (enterP taken h [x] q) H' → KpS c fd H H' → K .next ρ' H') : wpSs sp enB ρ H K := by
  obtain ⟨F,f1,f2,f3,f4,f5⟩ := hF.all
  obtain ⟨tk0,hrd,-⟩ := hS.tk
  have hfl : (F.map fun x => V.ref x.1).length ≤ 1000000 := by have := hF.ln; simp [f5]; omega
  have hM := listM_names f2
  have her := hS.er
  obtain ⟨ms,hss,hlv⟩ := hlv
  unfold enB
  walk_at "X"
  intro c1 hc1
  have g0 := pt (x := O.list (F.map fun x => V.str x.2.1)) ht (nf ht hc1)
  have g1 := pt (x := O.list (F.map fun x => V.str x.2.1)) hrd (nf hrd hc1)
  have g2 := pt (x := O.list (F.map fun x => V.str x.2.1)) her (nf her hc1)
  have g3 := pt (x := O.list (F.map fun x => V.str x.2.1)) hss (nf hss hc1)
  have g4 := pt (x := O.list (F.map fun x => V.str x.2.1)) f1 (nf f1 hc1)
  have g5 : put H c1 (O.list (F.map fun x => V.str x.2.1)) c1 = some (O.list (F.map fun x => V.str x.2.1)) := put_same
  have g6 := hS.new (o := O.list (F.map fun x => V.str x.2.1)) hc1
  have z1 : Fz H (put H c1 (O.list (F.map fun x => V.str x.2.1))) := Fz.new hc1
  have g7 := hF.keep (q' := q) z1 (by rw [put_ne (nf f1 hc1)]) rfl rfl
  have g8 := hP.fz z1
  have g9 : KpS c fd H (put H c1 (O.list (F.map fun x => V.str x.2.1))) := KpS.refl.putf hc1
  have hl2 : listM strOf (F.map fun x => V.str x.2.1) = some (F.map fun x => x.2.1) := by
    have := listM_str (F.map fun x => x.2.1); rwa [List.map_map] at this
  generalize put H c1 (O.list (F.map fun x => V.str x.2.1)) = H1 at *
  walk_at "X"
  refine Brn.mk (fun e => ?_) fun e => ?_
  · rw [f3] at e
    walk_at "X"
    refine c_mark hC g6 hx fun H2 hS2 hk2 => ?_
    have ek : enterP taken h [x] q = { q with ps := markS q.ps x.2 [100,101,102,105,110,101,100,95,116,119,105,99,101] } := by simp only [enterP]; rw [if_pos e]
    rw [ek] at k
    walk_at "X"
    exact k _ _ (fun n _ => rfl) hS2 (g7.keep (hk2.fz g6) ((hk2 _ _ g4 (g6.nml g4 hF.ne)).trans g4.symm) rfl rfl) (g9.trans hk2.s)
  · rw [f3] at e
    have ek : enterP taken h [x] q = { ps := if 60 < q.words + h.w then markS q.ps x.2 [116,111,111,95,108,97,114,103,101] else q.ps,pars := q.pars ++ [⟨x.1,x.2,h.kind,h.closed,h.which,h.t,h.owner⟩],words := q.words + h.w } := by simp only [enterP]; rw [if_neg e]
    rw [ek] at k
    clear ek f3 hM hl2
    have fin : ∀ (kd : Tx) (cl : Bool) (ρ' : Rho),kd = h.kind → cl = h.closed → (∀ n,n ≠ .n_par → ρ' n = ρ n) → ∀ a,H1 a = none → ρ' .n_par = some (.ref a) →
        wpSs sp [.ifs (E.cmp .gt (E.call .f_words_of [(E.loc .n_found)]) (E.gint (Str.ofString "MOST_WORDS") 60)) [.expr (E.meth .c_ErrorList (E.attr (E.loc .n_rd) .n_errors) .n_mark [(E.attr (E.loc .n_token) .n_place),(E.str [116,111,111,95,108,97,114,103,101])])] []]
          ρ' (put (put H1 a (parO x.1 kd tt x.2 cl T.lv F.length)) fd (.list (F.map (fun x => V.ref x.1) ++ [.ref a]))) (seqK sp [] K) := by
      intro kd cl ρ' ekd ecl hρ a ha hra
      subst ekd ecl
      have nfd := nf g4 ha
      have hS2 := g6.new (o := parO x.1 h.kind tt x.2 h.closed T.lv F.length) ha
      have b1 := pt (x := parO x.1 h.kind tt x.2 h.closed T.lv F.length) g4 nfd
      have hS3 := hS2.putl (ys := F.map (fun x => V.ref x.1) ++ [.ref a]) b1 hF.ne
      have z2 : Fz H1 (put H1 a (parO x.1 h.kind tt x.2 h.closed T.lv F.length)) := Fz.new ha
      have z3 : Fz H1 (put (put H1 a (parO x.1 h.kind tt x.2 h.closed T.lv F.length)) fd (.list (F.map (fun x => V.ref x.1) ++ [.ref a]))) := z2.trans (Fz.putl b1)
      have b2 := pt (x := .list (F.map (fun x => V.ref x.1) ++ [.ref a])) (pt (x := parO x.1 h.kind tt x.2 h.closed T.lv F.length) g0 (nf g0 ha)) (nn g0 g4 nofun)
      have b3 := pt (x := .list (F.map (fun x => V.ref x.1) ++ [.ref a])) (pt (x := parO x.1 h.kind tt x.2 h.closed T.lv F.length) g1 (nf g1 ha)) (nn g1 g4 nofun)
      have b4 := pt (x := .list (F.map (fun x => V.ref x.1) ++ [.ref a])) (pt (x := parO x.1 h.kind tt x.2 h.closed T.lv F.length) g2 (nf g2 ha)) (nn g2 g4 nofun)
      have b5 : put (put H1 a (parO x.1 h.kind tt x.2 h.closed T.lv F.length)) fd (.list (F.map (fun x => V.ref x.1) ++ [.ref a])) a = some (parO x.1 h.kind tt x.2 h.closed T.lv F.length) := by rw [put_ne (Ne.symm nfd),put_same]
      have b6 : put (put H1 a (parO x.1 h.kind tt x.2 h.closed T.lv F.length)) fd (.list (F.map (fun x => V.ref x.1) ++ [.ref a])) fd = some (.list (F.map (fun x => V.ref x.1) ++ [.ref a])) := put_same
      have b7 : KpS c fd H (put (put H1 a (parO x.1 h.kind tt x.2 h.closed T.lv F.length)) fd (.list (F.map (fun x => V.ref x.1) ++ [.ref a]))) := g9.trans ((KpS.refl.putf ha).putd)
      generalize put (put H1 a (parO x.1 h.kind tt x.2 h.closed T.lv F.length)) fd (.list (F.map (fun x => V.ref x.1) ++ [.ref a])) = H3 at *
      have hpk2 : (0 < h.which ∨ T.form h.t = [114,101,99,111,114,100]) → h.kind = [112,97,114] := fun z => by rw [hk,hpk z,Bool.or_true]; rfl
      have hP3 := g8.fz z3
      have hW : WOk H3 a h.w := by rw [hw]; exact hP3.wok b5 rfl rfl hpk2
      have hF3 : FI c T label pre taken fd { ps := if 60 < q.words + h.w then markS q.ps x.2 [116,111,111,95,108,97,114,103,101] else q.ps,pars := q.pars ++ [⟨x.1,x.2,h.kind,h.closed,h.which,h.t,h.owner⟩],words := q.words + h.w } H3 := by
        obtain ⟨c1,c2,c3,⟨ps,c4,c5⟩,c6,c7⟩ := g7
        have hl := c5.len
        rw [g4] at c4
        injection c4 with c4; injection c4 with c4
        refine ⟨c1,c2,fun a ha => ⟨(c3 a ha).1.fz z3,(c3 a ha).2.fz z3⟩,⟨ps ++ [a],?_,(c5.fz z3).snoc ⟨tt,?_,hP3,hpk2⟩⟩,?_,?_⟩
        · rw [b6,c4]; simp
        · rw [b5,f5,hl]
        · rw [List.map_append,List.sum_append,c6,hw]; simp; omega
        · simp; omega
      have q1 : ρ' .n_found = some (.ref fd) := (hρ _ (by decide)).trans r2
      have q2 : ρ' .n_rd = some (.ref c.rd) := (hρ _ (by decide)).trans r1
      have q3 : ρ' .n_token = some (.ref t0) := (hρ _ (by decide)).trans r6
      walk_at "X"
      refine c_words_of hC (F := F.map (fun x => (x.1,x.2.2)) ++ [(a,h.w)]) (by rw [b6]; simp) (fun y hy => ?_) ?_
      · rcases List.mem_append.mp hy with hy | hy
        · obtain ⟨z,hz,rfl⟩ := List.mem_map.mp hy
          exact (f2 z hz).2.fz (z1.trans z3)
        · rw [List.mem_singleton.mp hy]; exact hW
      rw [show ((F.map (fun x => (x.1,x.2.2)) ++ [(a,h.w)]).map Prod.snd).sum = q.words + h.w by rw [List.map_append,List.sum_append,List.map_map,← f4]; simp [Function.comp_def]]
      walk_at "X"
      refine Brn.mk (fun e => ?_) fun e => ?_
      · have e : 60 < q.words + h.w := by omega
        rw [if_pos e] at k hF3
        walk_at "X"
        refine c_mark hC hS3 hx fun H4 hS4 hk4 => ?_
        walk_at "X"
        exact k _ _ hρ hS4 (hF3.keep (hk4.fz hS3) ((hk4 _ _ b6 (hS3.nml b6 hF.ne)).trans b6.symm) rfl rfl) (b7.trans hk4.s)
      · have e : ¬ 60 < q.words + h.w := by omega
        rw [if_neg e] at k hF3
        walk_at "X"
        exact k _ _ hρ hS3 hF3 b7
    have n1 : ∀ a,H1 a = none → t0 ≠ a := fun a ha => nf g0 ha
    have n2 : ∀ a,H1 a = none → c.rd ≠ a := fun a ha => nf g1 ha
    have n3 : ∀ a,H1 a = none → c.ss ≠ a := fun a ha => nf g3 ha
    have n4 : ∀ a,H1 a = none → fd ≠ a := fun a ha => nf g4 ha
    have hfl2 : (F.map fun x => V.ref x.1).length < 1000000 := by have := hF.ln; simp [f5]; omega
    have hfl3 : (F.map fun x => V.ref x.1).length ≤ 10000000 := by omega
    have elen : (F.map fun x => V.ref x.1).length = F.length := by simp
    simp (disch := walk_at "Y") only [↓wpSs_nil,↓wpSs_cons,↓sk_next,↓sk_ret,↓sk_cont,↓br_t,↓br_f,↓br_T,↓br_F,↓br_n,↓cn_t,↓e_loc,↓e_gint,↓e_int,↓e_str,↓e_bool,↓e_none,↓e_pow,↓e_neg,↓e_attr,↓e_bin,↓e_not,↓e_or,↓e_cmp,↓e_list,↓e_tup,↓e_d0td,↓e_d0sd,↓e_d0id,↓e_idx,↓e_slice,↓e_call,↓e_met,↓e_new,↓e_bi,↓e_app,↓e_pop,↓e_pop0,↓e_dgt,↓e_sfind,↓e_compA,↓e_compI,↓es_n,↓es_c,↓o_n,↓o_s,↓io_i,↓nv_b,↓an_c,↓or_c,↓av_1,↓av_2,↓ov_1,↓ov_2,↓mt_r,↓tv_b,↓lv_r,↓dv_r,↓sv_r,↓sv_t,↓t_not,↓t_and,↓t_or,↓t_cmp,↓t_loc,↓t_bool,↓t_call,↓t_met,↓al_n,↓al_c,↓ay_n,↓ay_c,↓all_T,↓all_F,↓all_P,↓p_asg,↓p_unpk,↓p_sattr,↓p_sidx,↓p_aug,↓p_augattr,↓p_ifs,↓p_whl,↓p_forS,↓p_forT,↓p_forR,↓p_forV,↓p_ret,↓p_retn,↓p_cont,↓p_expr,↓rd_r,↓sa_r,↓bi_ii,↓xi_ss,↓xi_tt,↓xi_rr,↓bi_sub,↓xi_mul,↓xi_mulr,↓xi_div,↓xi_mod,↓ag_ii,↓xg_ss,↓xg_rr,↓xx_t,↓xx_l,↓xx_d,↓xl_s,↓xl_l,↓xl_x,↓bf_abs,↓bf_int,↓xf_chr,↓xf_str,↓xf_lens,↓xf_lenl,↓bf_ord,↓bf_max,↓xf_list,↓xa_l,↓xp_l,↓xp0_l,↓xd_l,↓xs_l,↓xs_i,↓xs_s,↓xs_t,↓cm_eq,↓cm_ne,↓cm_lt,↓cm_le,↓cm_les,↓cm_gt,↓cm_ge,↓cm_in,↓cm_notin,↓xc_nn,↓xc_nr,↓eq_i,↓eq_s,↓eq_b,↓xe_t,↓xe_l,↓xm_ls,↓xm_li,↓xm_sd,↓xm_id,↓xm_t,↓me_s,↓xcp_l,↓fi_l,↓fi_t,↓ft_l,↓fv_l,↓fr_i,↓fk_n,↓fk_c,↓fk_r,↓wk_n,↓wk_c,↓wk_r,↓body_eq,↓ret_r,↓ret_n,sset,reduceCtorEq,if_true,if_false,↓e_iteor,↓e_andnot]
    refine c_newObj hC fun a ha => ?_
    have m1 := n1 a ha
    have m2 := n2 a ha
    have m3 := n3 a ha
    have m4 := n4 a ha
    have z := fin (if (vr || st) = true then [112,97,114] else [118,97,114]) (st && !vr) (put ρ .n_par (.ref a)) hk.symm hcl.symm (fun n hn => put_ne hn) a ha put_same
    simp (disch := walk_at "Y") only [↓wpSs_nil,↓wpSs_cons,↓sk_next,↓sk_ret,↓sk_cont,↓br_t,↓br_f,↓br_T,↓br_F,↓br_n,↓cn_t,↓e_loc,↓e_gint,↓e_int,↓e_str,↓e_bool,↓e_none,↓e_pow,↓e_neg,↓e_attr,↓e_bin,↓e_not,↓e_or,↓e_cmp,↓e_list,↓e_tup,↓e_d0td,↓e_d0sd,↓e_d0id,↓e_idx,↓e_slice,↓e_call,↓e_met,↓e_new,↓e_bi,↓e_app,↓e_pop,↓e_pop0,↓e_dgt,↓e_sfind,↓e_compA,↓e_compI,↓es_n,↓es_c,↓o_n,↓o_s,↓io_i,↓nv_b,↓an_c,↓or_c,↓av_1,↓av_2,↓ov_1,↓ov_2,↓mt_r,↓tv_b,↓lv_r,↓dv_r,↓sv_r,↓sv_t,↓t_not,↓t_and,↓t_or,↓t_cmp,↓t_loc,↓t_bool,↓t_call,↓t_met,↓al_n,↓al_c,↓ay_n,↓ay_c,↓all_T,↓all_F,↓all_P,↓p_asg,↓p_unpk,↓p_sattr,↓p_sidx,↓p_aug,↓p_augattr,↓p_ifs,↓p_whl,↓p_forS,↓p_forT,↓p_forR,↓p_forV,↓p_ret,↓p_retn,↓p_cont,↓p_expr,↓rd_r,↓sa_r,↓bi_ii,↓xi_ss,↓xi_tt,↓xi_rr,↓bi_sub,↓xi_mul,↓xi_mulr,↓xi_div,↓xi_mod,↓ag_ii,↓xg_ss,↓xg_rr,↓xx_t,↓xx_l,↓xx_d,↓xl_s,↓xl_l,↓xl_x,↓bf_abs,↓bf_int,↓xf_chr,↓xf_str,↓xf_lens,↓xf_lenl,↓bf_ord,↓bf_max,↓xf_list,↓xa_l,↓xp_l,↓xp0_l,↓xd_l,↓xs_l,↓xs_i,↓xs_s,↓xs_t,↓cm_eq,↓cm_ne,↓cm_lt,↓cm_le,↓cm_les,↓cm_gt,↓cm_ge,↓cm_in,↓cm_notin,↓xc_nn,↓xc_nr,↓eq_i,↓eq_s,↓eq_b,↓xe_t,↓xe_l,↓xm_ls,↓xm_li,↓xm_sd,↓xm_id,↓xm_t,↓me_s,↓xcp_l,↓fi_l,↓fi_t,↓ft_l,↓fv_l,↓fr_i,↓fk_n,↓fk_c,↓fk_r,↓wk_n,↓wk_c,↓wk_r,↓body_eq,↓ret_r,↓ret_n,sset,reduceCtorEq,if_true,if_false,↓e_iteor,↓e_andnot] at z ⊢
    simp only [put_put,elen] at z ⊢
    exact z
end
end
section
def RowP (n : Nat) (rs : List Row) : Prop := ∀ r ∈ rs,r.2.2 ≤ n ∧ r.2.1.length ≤ 10
theorem Lex.rowP {src : Tx} : ∀ {rs : List Row} {p : Nat},Lex src p rs → RowP src.length rs
  | [],_,_ => fun _ h => nomatch h
  | r :: q,p,h => fun x hx => by
    rcases List.mem_cons.mp hx with rfl | hx
    · refine ⟨h.2.1,?_⟩
      rcases h.2.2.1 with ⟨e,-⟩ | ⟨e,-⟩
      · rw [e]; exact Nat.zero_le _
      · have := List.all_eq_true.mp sort_not _ e
        simp only [Bool.and_eq_true,decide_eq_true_eq] at this
        exact this.2
    · exact Lex.rowP h.2.2.2.2.2 x hx
theorem RowP.tail {n : Nat} {rs : List Row} (h : RowP n rs) : RowP n rs.tail := fun r hr => h r (List.mem_of_mem_tail hr)
theorem RowP.head {n : Nat} {rs : List Row} (h : RowP n rs) : spo rs ≤ n ∧ (sg rs).length ≤ 10 := by
  cases rs with
  | nil => exact ⟨Nat.zero_le _,Nat.zero_le _⟩
  | cons r q => exact h r List.mem_cons_self
theorem namesF_ok {n : Nat} : ∀ (k : Nat) (s : PS),RowP n s.rs → ∀ x ∈ (namesF k s).1,x.2 ≤ n ∧ x.1.length ≤ 10
  | 0,_,_,_,h => nomatch h
  | k + 1,s,h,x,hx => by
    unfold namesF at hx
    split at hx
    · split at hx
      · rcases List.mem_cons.mp hx with rfl | hx
        · exact h.head
        · exact namesF_ok k (stepS (stepS s)) h.tail.tail x hx
      · rw [List.mem_singleton.mp hx]; exact h.head
    · exact nomatch hx
theorem e_oreq {sp : Sp} {ρ : Rho} {x : N} {a b f : Tx} {t : Addr} {m : List (N × V)} {H : AH} {Q : Post} (hx : Yes (ρ x = some (.ref t))) (ht : H t = some (.inst .c_Type m)) (hf : Yes (lk m .n_form = some (.str f))) :
    wpE sp ρ (.or [.cmp .eq (.attr (.loc x) .n_form) (.str a),.cmp .eq (.attr (.loc x) .n_form) (.str b)]) H Q = Q (.bool (decide (f = a) || decide (f = b))) H := by
  have h1 : ∀ Q : Post,rdAttr (.ref t) .n_form H Q = Q (.str f) H := fun Q => rd_r ht ⟨rfl⟩ hf
  simp (disch := walk_at "Y") only [↓wpSs_nil,↓wpSs_cons,↓sk_next,↓sk_ret,↓sk_cont,↓br_t,↓br_f,↓br_T,↓br_F,↓br_n,↓cn_t,↓e_loc,↓e_gint,↓e_int,↓e_str,↓e_bool,↓e_none,↓e_pow,↓e_neg,↓e_attr,↓e_bin,↓e_not,↓e_and,↓e_or,↓e_cmp,↓e_ite,↓e_list,↓e_tup,↓e_d0td,↓e_d0sd,↓e_d0id,↓e_idx,↓e_slice,↓e_call,↓e_met,↓e_new,↓e_bi,↓e_app,↓e_pop,↓e_pop0,↓e_dgt,↓e_sfind,↓e_compA,↓e_compI,↓es_n,↓es_c,↓o_n,↓o_s,↓io_i,↓nv_b,↓an_c,↓or_c,↓av_1,↓av_2,↓ov_1,↓ov_2,↓mt_r,↓tv_b,↓lv_r,↓dv_r,↓sv_r,↓sv_t,↓t_not,↓t_and,↓t_or,↓t_cmp,↓t_loc,↓t_bool,↓t_call,↓t_met,↓al_n,↓al_c,↓ay_n,↓ay_c,↓all_T,↓all_F,↓all_P,↓p_asg,↓p_unpk,↓p_sattr,↓p_sidx,↓p_aug,↓p_augattr,↓p_ifs,↓p_whl,↓p_forS,↓p_forT,↓p_forR,↓p_forV,↓p_ret,↓p_retn,↓p_cont,↓p_expr,↓rd_r,↓sa_r,↓bi_ii,↓xi_ss,↓xi_tt,↓xi_rr,↓bi_sub,↓xi_mul,↓xi_mulr,↓xi_div,↓xi_mod,↓ag_ii,↓xg_ss,↓xg_rr,↓xx_t,↓xx_l,↓xx_d,↓xl_s,↓xl_l,↓xl_x,↓bf_abs,↓bf_int,↓xf_chr,↓xf_str,↓xf_lens,↓xf_lenl,↓bf_ord,↓bf_max,↓xf_list,↓xa_l,↓xp_l,↓xp0_l,↓xd_l,↓xs_l,↓xs_i,↓xs_s,↓xs_t,↓cm_eq,↓cm_ne,↓cm_lt,↓cm_le,↓cm_les,↓cm_gt,↓cm_ge,↓cm_in,↓cm_notin,↓xc_nn,↓xc_nr,↓eq_i,↓eq_s,↓eq_b,↓xe_t,↓xe_l,↓xm_ls,↓xm_li,↓xm_sd,↓xm_id,↓xm_t,↓me_s,↓xcp_l,↓fi_l,↓fi_t,↓ft_l,↓fv_l,↓fr_i,↓fk_n,↓fk_c,↓fk_r,↓wk_n,↓wk_c,↓wk_r,↓body_eq,↓ret_r,↓ret_n,sset,reduceCtorEq,if_true,if_false,h1]
  have e : decide (decide (f = a) = true) = decide (f = a) := by simp
  by_cases h : f = a
  · have e1 : decide (f = a) = true := decide_eq_true h
    rw [e1]; simp [Brn]
  · have e1 : decide (f = a) = false := decide_eq_false h
    rw [e1]
    have : Brn (false = true) (Q (.bool true) H) (wpOr sp ρ [.cmp .eq (.attr (.loc x) .n_form) (.str b)] H Q) ⟨⟩ ⟨⟩ = wpOr sp ρ [.cmp .eq (.attr (.loc x) .n_form) (.str b)] H Q := br_f ⟨by decide⟩
    rw [this,Bool.false_or]
    simp (disch := walk_at "Y") only [↓wpSs_nil,↓wpSs_cons,↓sk_next,↓sk_ret,↓sk_cont,↓br_t,↓br_f,↓br_T,↓br_F,↓br_n,↓cn_t,↓e_loc,↓e_gint,↓e_int,↓e_str,↓e_bool,↓e_none,↓e_pow,↓e_neg,↓e_attr,↓e_bin,↓e_not,↓e_and,↓e_or,↓e_cmp,↓e_ite,↓e_list,↓e_tup,↓e_d0td,↓e_d0sd,↓e_d0id,↓e_idx,↓e_slice,↓e_call,↓e_met,↓e_new,↓e_bi,↓e_app,↓e_pop,↓e_pop0,↓e_dgt,↓e_sfind,↓e_compA,↓e_compI,↓es_n,↓es_c,↓o_n,↓o_s,↓io_i,↓nv_b,↓an_c,↓or_c,↓av_1,↓av_2,↓ov_1,↓ov_2,↓mt_r,↓tv_b,↓lv_r,↓dv_r,↓sv_r,↓sv_t,↓t_not,↓t_and,↓t_or,↓t_cmp,↓t_loc,↓t_bool,↓t_call,↓t_met,↓al_n,↓al_c,↓ay_n,↓ay_c,↓all_T,↓all_F,↓all_P,↓p_asg,↓p_unpk,↓p_sattr,↓p_sidx,↓p_aug,↓p_augattr,↓p_ifs,↓p_whl,↓p_forS,↓p_forT,↓p_forR,↓p_forV,↓p_ret,↓p_retn,↓p_cont,↓p_expr,↓rd_r,↓sa_r,↓bi_ii,↓xi_ss,↓xi_tt,↓xi_rr,↓bi_sub,↓xi_mul,↓xi_mulr,↓xi_div,↓xi_mod,↓ag_ii,↓xg_ss,↓xg_rr,↓xx_t,↓xx_l,↓xx_d,↓xl_s,↓xl_l,↓xl_x,↓bf_abs,↓bf_int,↓xf_chr,↓xf_str,↓xf_lens,↓xf_lenl,↓bf_ord,↓bf_max,↓xf_list,↓xa_l,↓xp_l,↓xp0_l,↓xd_l,↓xs_l,↓xs_i,↓xs_s,↓xs_t,↓cm_eq,↓cm_ne,↓cm_lt,↓cm_le,↓cm_les,↓cm_gt,↓cm_ge,↓cm_in,↓cm_notin,↓xc_nn,↓xc_nr,↓eq_i,↓eq_s,↓eq_b,↓xe_t,↓xe_l,↓xm_ls,↓xm_li,↓xm_sd,↓xm_id,↓xm_t,↓me_s,↓xcp_l,↓fi_l,↓fi_t,↓ft_l,↓fv_l,↓fr_i,↓fk_n,↓fk_c,↓fk_r,↓wk_n,↓wk_c,↓wk_r,↓body_eq,↓ret_r,↓ret_n,sset,reduceCtorEq,if_true,if_false,h1]
section
variable {sp : Sp} (hC : Calls sp) {c : Cx} {T : Tab} {label : Tx} {pre : List Addr} {taken : Bool} {fd nm : Addr} {h : Hd} {vr st : Bool} {tt : Addr} {all : List V} {K : SPost}
include hC
theorem c_enterL (hk : h.kind = if vr || st then [112,97,114] else [118,97,114]) (hcl : h.closed = (st && !vr)) (hw : h.w = wOf T h.which h.t) (hpk : (0 < h.which ∨ T.form h.t = [114,101,99,111,114,100]) → st = true) (hn1 : nm ≠ fd) (hn2 : nm ≠ c.rw) :
    ∀ (xs : List (Tx × Nat)) (ts : List Addr) (q : QS) (H : AH) (ρ : Rho) (bq : Bq K),Toks H ts xs → RS c q.ps H → FI c T label pre taken fd q H → PT T label H tt h.which h.t h.owner → (∀ x ∈ xs,x.2 ≤ c.src.length) → (∃ m,H c.ss = some (.inst .c_Scopes m) ∧ lk m .n_level = some (.int T.lv)) →
    q.pars.length + xs.length + pre.length ≤ 100000 → H nm = some (.list all) →
    ρ .n_rd = some (.ref c.rd) → ρ .n_found = some (.ref fd) → ρ .n_variable = some (.bool vr) → ρ .n_structured = some (.bool st) → ρ .n_t = some (.ref tt) →
    (∀ ρ' H',RS c (enterP taken h xs q).ps H' → FI c T label pre taken fd (enterP taken h xs q) H' → KpS c fd H H' → K .next ρ' H') → FL (srcB (.ref nm) all) (asgB .n_token) (bodyB sp enB) (ts.map V.ref) ρ H K bq := by
  intro xs
  induction xs with
  | nil =>
    intro ts q H ρ bq hT hS hF hP hx hlv hb ha r1 r2 r3 r4 r5 k
    cases ts with
    | cons => exact hT.elim
    | nil => exact fl_nil (by simp only [srcB,itemsOfV,ha]) (k ρ H hS hF .refl)
  | cons x xs ih =>
    intro ts q H ρ bq hT hS hF hP hx hlv hb ha r1 r2 r3 r4 r5 k
    cases ts with
    | nil => exact hT.elim
    | cons t0 ts =>
      obtain ⟨m,hm,hm2⟩ := hlv
      have hlen : (enterP taken h [x] q).pars.length ≤ q.pars.length + 1 := (enterP_ps taken h [x] q).2.2
      simp only [List.length_cons] at hb
      refine fl_cons (by simp only [srcB,itemsOfV,ha]) rfl ?_
      refine c_enter1 hC (t0 := t0) (x := x) (vr := vr) (st := st) (tt := tt) hk hcl hw hpk hT.1 hS hF hP (hx x List.mem_cons_self) ⟨m,hm,hm2⟩ (by omega) ?_ ?_ ?_ ?_ ?_ ?_ fun ρ' H' hρ hS' hF' hk' => ?_
      · simp only [put_apply,reduceCtorEq,if_false,r1]
      · simp only [put_apply,reduceCtorEq,if_false,r2]
      · simp only [put_apply,reduceCtorEq,if_false,r3]
      · simp only [put_apply,reduceCtorEq,if_false,r4]
      · simp only [put_apply,reduceCtorEq,if_false,r5]
      · simp only [put_apply,if_true]
      · have hf := hF.ps
        obtain ⟨ps,hfd,-⟩ := hf
        have z := hk'.fz hS hfd
        have n1 : ∀ {a : Addr} {k : Cls} {m : List (N × V)},H a = some (.inst k m) → (O.inst k m).free = true → H' a = some (.inst k m) := fun e f => hk' _ _ e (hS.nm e f) (nn e hfd nofun)
        rw [fk_n]
        refine ih ts _ H' ρ' ⟨⟩ (hT.2.imp fun a k v p e => n1 e rfl) hS' hF' (hP.fz z) (fun y hy => hx y (List.mem_cons_of_mem _ hy)) ⟨m,n1 hm rfl,hm2⟩ (by omega) (hk' _ _ ha (hS.nml ha hn2) hn1) ?_ ?_ ?_ ?_ ?_ fun ρ2 H2 a b d => ?_
        · rw [hρ _ (by decide)]; simp only [put_apply,reduceCtorEq,if_false,r1]
        · rw [hρ _ (by decide)]; simp only [put_apply,reduceCtorEq,if_false,r2]
        · rw [hρ _ (by decide)]; simp only [put_apply,reduceCtorEq,if_false,r3]
        · rw [hρ _ (by decide)]; simp only [put_apply,reduceCtorEq,if_false,r4]
        · rw [hρ _ (by decide)]; simp only [put_apply,reduceCtorEq,if_false,r5]
        · exact k ρ2 H2 a b (hk'.trans d)
end
end
section
section
variable {sp : Sp} (hC : Calls sp) {c : Cx} {T : Tab} {label : Tx} {pre : List Addr} {taken : Bool} {fd : Addr} {q : QS} {H : AH} {Q : Post}
include hC
theorem c_section (hS : RS c q.ps H) (hE : Env c T H) (hF : FI c T label pre taken fd q H) (hb1 : q.ps.ar + q.ps.rs.length ≤ 1000) (hb3 : q.pars.length + q.ps.rs.length + pre.length ≤ 100000) (hll : label.length ≤ 1000)
    (k : ∀ H',RS c (sectionP T taken q).ps H' → FI c T label pre taken fd (sectionP T taken q) H' → KpS c fd H H' → Q .none H') : sp .f_section [.ref c.rd,.str label,.ref fd] H Q := by
  refine hC _ _ [] _ _ rfl ?_
  obtain ⟨tk0,hrd,-⟩ := hS.tk
  obtain ⟨ps0,hfd,-⟩ := hF.ps
  simp only [Fn.body,Fn.params,rhoOf,List.cons_append,List.nil_append]
  (unfold b_section; walk_at "X")
  have hv : ∀ {Q : Post},(∀ H',RS c (varS q.ps) H' → Kp c H H' → Q (.bool (decide (so q.ps.rs = [86,65,82]))) H') → sp .f_Reader_skip [.ref c.rd,.str [86,65,82]] H Q := fun h =>
    c_rskip hC hS (by decide) (fun e H' a b => by have := h H'; rw [varS,if_pos e,decide_eq_true e] at this; exact this a b) fun e => by have := h H; rw [varS,if_neg e,decide_eq_false e] at this; exact this hS .refl
  refine hv fun H1 hS1 hk1 => ?_
  obtain ⟨tk1,hrd1,-⟩ := hS1.tk
  have vl := varS_len q.ps
  walk_at "X"
  refine c_plain_names hC hS1 (Nat.le_refl _) (by omega) fun nm ts H2 hnm1 hnm2 hT hS2 hk2 => ?_
  obtain ⟨tk2,hrd2,-⟩ := hS2.tk
  have nl := namesF_len (varS q.ps).rs.length (varS q.ps)
  have na := namesF_ar (varS q.ps).rs.length (varS q.ps)
  have nok : ∀ x ∈ (namesF (varS q.ps).rs.length (varS q.ps)).1,x.2 ≤ c.src.length ∧ x.1.length ≤ 10 := namesF_ok _ _ (by obtain ⟨p,hp⟩ := hS1.lx; exact hp.rowP)
  have kdef : sectionP T taken q = enterP taken (hdOf T (decide (so q.ps.rs = [86,65,82])) (formalP T (expS (namesF (varS q.ps).rs.length (varS q.ps)).2 [58])).1 (formalP T (expS (namesF (varS q.ps).rs.length (varS q.ps)).2 [58])).2.1
    ((formalP T (expS (namesF (varS q.ps).rs.length (varS q.ps)).2 [58])).2.2.ar + if (formalP T (expS (namesF (varS q.ps).rs.length (varS q.ps)).2 [58])).1 then 1 else 0) (ownerOf (namesF (varS q.ps).rs.length (varS q.ps)).1))
    (namesF (varS q.ps).rs.length (varS q.ps)).1 { q with ps := { (formalP T (expS (namesF (varS q.ps).rs.length (varS q.ps)).2 [58])).2.2 with ar := (formalP T (expS (namesF (varS q.ps).rs.length (varS q.ps)).2 [58])).2.2.ar + if (formalP T (expS (namesF (varS q.ps).rs.length (varS q.ps)).2 [58])).1 then 1 else 0 } } := rfl
  generalize namesF (varS q.ps).rs.length (varS q.ps) = N at *
  have nd0 : nm ≠ fd := fun e => by rw [e] at hnm1; exact absurd (hk1.fresh hS1 hnm1) (by rw [hfd]; nofun)
  have nrw : nm ≠ c.rw := Ne.symm (nf hS1.rw hnm1)
  walk_at "X"
  refine c_rexp hC hS2 (by decide) (by decide) (by decide) fun b3 H3 hS3 hk3 => ?_
  obtain ⟨tk3,hrd3,-⟩ := hS3.tk
  have el := expS_len N.2 [58]
  have ea : (expS N.2 [58]).ar = N.2.ar := by unfold expS; split <;> rfl
  generalize hs3 : expS N.2 [58] = s3 at *
  have hnm3 := hk3 _ _ hnm2 (hS2.nml hnm2 nrw)
  have hT3 := hT.keep hS2 hk3
  have hk03 : Kp c H H3 := hk1.trans (hk2.trans hk3)
  have hE3 := hE.keep hS hk03
  have hF3 := hF.keep (q' := q) (hk03.fz hS) ((hk03 _ _ hfd (hS.nml hfd hF.ne)).trans hfd.symm) rfl rfl
  have rest : ∀ ρ : Rho,ρ .n_rd = some (.ref c.rd) → ρ .n_label = some (.str label) → ρ .n_found = some (.ref fd) → ρ .n_variable = some (.bool (decide (so q.ps.rs = [86,65,82]))) → ρ .n_names = some (.ref nm) → ρ .n_first = some (.str (ownerOf N.1)) →
      wpSs sp [.asg .n_t (E.call .f_formal_type [(E.loc .n_rd),(E.bin .add (E.bin .add (E.loc .n_label) (E.str [40])) (E.loc .n_first))]),
        .asg .n_structured (E.or [(E.cmp .eq (E.attr (E.loc .n_t) .n_form) (E.str [97,114,114,97,121])),(E.cmp .eq (E.attr (E.loc .n_t) .n_form) (E.str [114,101,99,111,114,100]))]),
        .forS .n_token (E.loc .n_names) enB] ρ H3 (fun fl _ H' => Q (retOf fl) H') := by
    intro ρ r1 r2 r3 r4 r5 r6
    have ol : (ownerOf N.1).length ≤ 10 := by
      cases e : N.1 with
      | nil => exact Nat.zero_le _
      | cons x r => exact (nok x (by rw [e]; exact List.mem_cons_self)).2
    walk_at "X"
    refine ⟨by simp; omega,?_⟩
    walk_at "X"
    refine ⟨by simp; omega,?_⟩
    walk_at "X"
    refine c_formal_type hC hS3 hE3 (by omega) (by simp) fun H4 t hS4 hk4 ht4 hP4 => ?_
    have fl := formalP_len T s3
    have fa := formalP_ar T s3
    generalize formalP T s3 = F at *
    have hfd3 := hk03 _ _ hfd (hS.nml hfd hF.ne)
    have hfd4 := hk4 _ _ hfd3 (hS3.nml hfd3 hF.ne)
    have hnm4 := hk4 _ _ hnm3 (hS3.nml hnm3 nrw)
    have hF4 := hF3.keep (q' := { q with ps := { F.2.2 with ar := F.2.2.ar + if F.1 then 1 else 0 } }) (hk4.fz hS3) (hfd4.trans hfd3.symm) rfl rfl
    have hE4 := hE3.keep hS3 hk4
    have hT4 := hT3.keep hS3 hk4
    obtain ⟨opened,el2,s4⟩ := F
    dsimp only at *
    have hPT : PT T label H4 t (if opened then s4.ar + (if opened then 1 else 0) else 0) el2 (ownerOf N.1) := by
      refine ⟨?_,ht4⟩
      cases opened with
      | true =>
        simp only [if_true] at *
        rw [if_pos (Nat.succ_pos _),fa]
        exact hP4.1
      | false => exact hP4
    have hform : ∃ m f,H4 t = some (.inst .c_Type m) ∧ lk m .n_form = some (.str f) ∧ (decide (f = [97,114,114,97,121]) || decide (f = [114,101,99,111,114,100])) = (opened || isSt (T.form el2)) := by
      cases opened with
      | true =>
        obtain ⟨⟨f,p,q',e⟩,-⟩ := hP4
        exact ⟨_,_,e,rfl,rfl⟩
      | false =>
        obtain ⟨m,l,e,e2,-⟩ := ht4
        have hP4 : t = el2 := hP4
        subst hP4
        exact ⟨m,_,e,e2,rfl⟩
    obtain ⟨mf,f,hf1,hf2,hf3⟩ := hform
    simp (disch := walk_at "Y") only [↓wpSs_nil,↓wpSs_cons,↓sk_next,↓sk_ret,↓sk_cont,↓br_t,↓br_f,↓br_T,↓br_F,↓br_n,↓cn_t,↓e_loc,↓e_gint,↓e_int,↓e_str,↓e_bool,↓e_none,↓e_pow,↓e_neg,↓e_attr,↓e_bin,↓e_not,↓e_and,↓e_cmp,↓e_ite,↓e_list,↓e_tup,↓e_d0td,↓e_d0sd,↓e_d0id,↓e_idx,↓e_slice,↓e_call,↓e_met,↓e_new,↓e_bi,↓e_app,↓e_pop,↓e_pop0,↓e_dgt,↓e_sfind,↓e_compA,↓e_compI,↓es_n,↓es_c,↓o_n,↓o_s,↓io_i,↓nv_b,↓an_c,↓or_c,↓av_1,↓av_2,↓ov_1,↓ov_2,↓mt_r,↓tv_b,↓lv_r,↓dv_r,↓sv_r,↓sv_t,↓t_not,↓t_and,↓t_or,↓t_cmp,↓t_loc,↓t_bool,↓t_call,↓t_met,↓al_n,↓al_c,↓ay_n,↓ay_c,↓all_T,↓all_F,↓all_P,↓p_asg,↓p_unpk,↓p_sattr,↓p_sidx,↓p_aug,↓p_augattr,↓p_ifs,↓p_whl,↓p_forS,↓p_forT,↓p_forR,↓p_forV,↓p_ret,↓p_retn,↓p_cont,↓p_expr,↓rd_r,↓sa_r,↓bi_ii,↓xi_ss,↓xi_tt,↓xi_rr,↓bi_sub,↓xi_mul,↓xi_mulr,↓xi_div,↓xi_mod,↓ag_ii,↓xg_ss,↓xg_rr,↓xx_t,↓xx_l,↓xx_d,↓xl_s,↓xl_l,↓xl_x,↓bf_abs,↓bf_int,↓xf_chr,↓xf_str,↓xf_lens,↓xf_lenl,↓bf_ord,↓bf_max,↓xf_list,↓xa_l,↓xp_l,↓xp0_l,↓xd_l,↓xs_l,↓xs_i,↓xs_s,↓xs_t,↓cm_eq,↓cm_ne,↓cm_lt,↓cm_le,↓cm_les,↓cm_gt,↓cm_ge,↓cm_in,↓cm_notin,↓xc_nn,↓xc_nr,↓eq_i,↓eq_s,↓eq_b,↓xe_t,↓xe_l,↓xm_ls,↓xm_li,↓xm_sd,↓xm_id,↓xm_t,↓me_s,↓xcp_l,↓fi_l,↓fi_t,↓ft_l,↓fv_l,↓fr_i,↓fk_n,↓fk_c,↓fk_r,↓wk_n,↓wk_c,↓wk_r,↓body_eq,↓ret_r,↓ret_n,sset,reduceCtorEq,if_true,if_false,↓e_oreq]
    rw [hf3]
    refine c_enterL hC (h := hdOf T (decide (so q.ps.rs = [86,65,82])) opened el2 (s4.ar + if opened then 1 else 0) (ownerOf N.1)) (vr := decide (so q.ps.rs = [86,65,82])) (st := opened || isSt (T.form el2)) (tt := t) ?_ rfl ?_ ?_ nd0 nrw N.1 ts _ H4 _ ⟨⟩ hT4 hS4 hF4 ?_ (fun x hx => (nok x hx).1) hE4.lv ?_ hnm4 ?_ ?_ ?_ ?_ ?_ ?_
    · show (if ((opened || isSt (T.form el2)) && !decide (so q.ps.rs = [86,65,82]) || decide (so q.ps.rs = [86,65,82])) = true then _ else _) = _
      generalize decide (so q.ps.rs = [86,65,82]) = v
      generalize (opened || isSt (T.form el2)) = w
      cases v <;> cases w <;> rfl
    · show (if (opened || decide (T.form el2 = [114,101,99,111,114,100])) = true then 2 else 1) = wOf T (if opened then _ else 0) el2
      unfold wOf
      cases opened with
      | true => simp
      | false => simp
    · show (0 < (if opened then s4.ar + (if opened then 1 else 0) else 0) ∨ T.form el2 = [114,101,99,111,114,100]) → _
      cases opened with
      | true => intro _; rfl
      | false =>
        rintro (z | z)
        · exact absurd z (by simp)
        · rw [z]; rfl
    · exact hPT
    · dsimp only; omega
    · simp only [put_apply,reduceCtorEq,if_false,r1]
    · simp only [put_apply,reduceCtorEq,if_false,r3]
    · simp only [put_apply,reduceCtorEq,if_false,r4]
    · simp only [put_apply,if_true]
    · simp only [put_apply,reduceCtorEq,if_false,if_true]
    · intro ρ' H' a b d
      rw [← kdef] at a b
      walk_at "X"
      exact k H' a b ((hk03.trans hk4).s.trans d)
  have tlen := hT3.len
  have hts : (ts.map V.ref).length ≤ 10000000 := by simp; omega
  cases hN : N.1 with
  | nil =>
    rw [hN] at tlen rest
    have : ts = [] := List.length_eq_zero_iff.mp tlen
    subst this
    have z := rest (put (put (put (put (put (put (fun _ => none) .n_found (.ref fd)) .n_label (.str label)) .n_rd (.ref c.rd)) .n_variable (.bool (decide (so q.ps.rs = [86,65,82])))) .n_names (.ref nm)) .n_first (.str [])) rfl rfl rfl rfl rfl rfl
    walk_at "Z"
    unfold enB at z
    exact z
  | cons x r =>
    rw [hN] at tlen rest hT3
    cases ts with
    | nil => cases tlen
    | cons t0 ts =>
      have ht0 := hT3.1
      have z := rest (put (put (put (put (put (put (put (fun _ => none) .n_found (.ref fd)) .n_label (.str label)) .n_rd (.ref c.rd)) .n_variable (.bool (decide (so q.ps.rs = [86,65,82])))) .n_names (.ref nm)) .n_first (.str [])) .n_first (.str x.1)) rfl rfl rfl rfl rfl rfl
      have hpos : (0 : Int) < ((List.map V.ref (t0 :: ts)).length : Nat) := by simp <;> omega
      have hit : It ((t0 :: ts).map V.ref) 0 (.ref t0) := ⟨rfl⟩
      walk_at "Z"
      unfold enB at z
      exact z
end
end
section
theorem KpS.sub {c : Cx} {x y : Addr} {H H1 H2 : AH} (h : KpS c x H H1) (h2 : KpS c y H1 H2) (hy : H y = none) : KpS c x H H2 := fun a o e n m => h2 a o (h a o e n m) n (nf e hy)
theorem Env.keep2 {c : Cx} {T : Tab} {H H' : AH} (h : Env c T H) (k1 : ∀ a k m,H a = some (.inst k m) → (k = .c_Obj ∨ k = .c_Type ∨ k = .c_Interface ∨ k = .c_Scope ∨ k = .c_Scopes) → H' a = some (.inst k m)) (k2 : ∀ a m,H a = some (.sd m) → H' a = some (.sd m)) (k3 : ∀ a xs,H a = some (.list xs) → a ≠ c.rw → H' a = some (.list xs)) : Env c T H' := by
  have kt : ∀ {a},TyOk T H a → TyOk T H' a := fun ⟨m,l,h1,h2⟩ => ⟨m,l,k1 _ _ _ h1 (by simp),h2⟩
  have kd2 : ∀ {vs n u},Den2 T H vs n u → Den2 T H' vs n u := fun h => by
    cases h with
    | un h => exact .un fun v hv => by obtain ⟨o,m,k',a,b,d⟩ := h v hv; exact ⟨o,m,k',a,k1 _ _ _ b (by simp),d⟩
    | so o m k' u pre post h1 h2 h3 h4 h5 h6 =>
      refine .so o m k' _ pre post h1 (fun v hv => by obtain ⟨o,m,k',a,b,d⟩ := h2 v hv; exact ⟨o,m,k',a,k1 _ _ _ b (by simp),d⟩) (k1 _ _ _ h3 (by simp)) h4 h5 ?_
      rcases h6 with ⟨a,b,d,e,f⟩ | h
      · exact .inl ⟨a,b,d,e,kt f⟩
      · exact .inr h
  have kd : ∀ {v u},Den c T H v u → Den c T H' v u := fun h => by
    cases h with
    | un => exact .un
    | nat o m k' h1 h2 h3 h4 => exact .nat o m k' (k1 _ _ _ h1 (by simp)) h2 h3 h4
    | rc o a m m2 h1 h2 h3 h4 h5 => exact .rc o a m m2 (k1 _ _ _ h1 (by simp)) h2 h3 (k1 _ _ _ h4 (by simp)) h5
    | ty o a m h1 h2 h3 h4 => exact .ty o a m (k1 _ _ _ h1 (by simp)) h2 h3 (kt h4)
    | mo o i ol m m2 vs h1 h2 h3 h4 h5 h6 h7 h8 h9 => exact .mo o i ol m m2 vs (k1 _ _ _ h1 (by simp)) h2 h3 (k1 _ _ _ h4 (by simp)) h5 h6 h7 (k3 _ _ h8 h7) fun n hn => kd2 (h9 n hn)
  obtain ⟨⟨st,scs,m,h1,h2,h3,h4,h5,h6,h7,h8⟩,hi,hn,ml,g1,g2⟩ := h
  exact ⟨⟨st,scs,m,k1 _ _ _ h1 (by simp),h2,h3,h4,k3 _ _ h5 h4,h6,fun q hq => by obtain ⟨m,a,b,d⟩ := h7 q hq; exact ⟨m,k1 _ _ _ a (by simp),b,k2 _ _ d⟩,fun n hn => kd (h8 n hn)⟩,⟨hi.1,kt hi.2⟩,hn,ml,k1 _ _ _ g1 (by simp),g2⟩
structure Off (c : Cx) (T : Tab) (x : Addr) (H : AH) : Prop where
  keep : ∀ H',KpS c x H H' → Env c T H'
theorem TyOk.base {T : Tab} {H : AH} {a x : Addr} {n sz len : Int} {form md lb : Tx} {b0 b1 : V} {f p r : Addr} (ha : H a = some (typeO n form sz b0 len f p r md lb)) (h : TyOk T H x) : TyOk T (put H a (typeO n form sz b1 len f p r md lb)) x := by
  obtain ⟨m,l,h1,h2,h3,h4,h5⟩ := h
  by_cases e : x = a
  · subst e
    rw [ha] at h1; cases h1
    exact ⟨_,l,put_same,h2,h3,h4,h5⟩
  · exact ⟨m,l,pt h1 e,h2,h3,h4,h5⟩
theorem PRs.base {T : Tab} {label : Tx} {H : AH} {a : Addr} {n sz : Int} {form md lb : Tx} {b0 b1 : V} {f p r : Addr} (ha : H a = some (typeO n form sz b0 0 f p r md lb)) : ∀ {k : Nat} {as : List Addr} {ps : List Par},PRs T label H k as ps → PRs T label (put H a (typeO n form sz b1 0 f p r md lb)) k as ps
  | _,[],[],_ => trivial
  | _,x :: _,y :: _,h => by
    refine ⟨?_,PRs.base ha h.2⟩
    obtain ⟨⟨tt,e,⟨e2,e3⟩,e4⟩,-⟩ := h
    refine ⟨tt,pt e (nn e ha nofun),⟨?_,e3.base ha⟩,e4⟩
    split
    · next w =>
      rw [if_pos w] at e2
      obtain ⟨f',p',q',e2⟩ := e2
      exact ⟨f',p',q',pt e2 (nn e2 ha fun z => by injection z with _ z; simp at z)⟩
    · next w => rw [if_neg w] at e2; exact e2
theorem FI.off {c : Cx} {T : Tab} {label : Tx} {fd : Addr} {q : QS} {H : AH} (h : FI c T label [] false fd q H) {a : Addr} {n sz : Int} {form md lb : Tx} {b0 : V} (b1 : V) {f p r : Addr} (ha : H a = some (typeO n form sz b0 0 f p r md lb)) (hfa : fd ≠ a) :
    FI c T label [] false fd q (put H a (typeO n form sz b1 0 f p r md lb)) := by
  obtain ⟨h1,h2,h3,⟨ps,h4,h5⟩,h6,h7⟩ := h
  exact ⟨h1,h2,fun _ h => (nomatch h),⟨ps,pt h4 hfa,h5.base ha⟩,h6,h7⟩
section
variable {sp : Sp} (hC : Calls sp) {c : Cx} {T : Tab} {s : PS} {H : AH} {Q : Post}
include hC
theorem c_is_scalar {t : Addr} (ht : TyOk T H t) (h : Q (.bool (!isSt (T.form t))) H) : sp .f_is_scalar [.ref t] H Q := by
  refine hC _ _ [] _ _ rfl ?_
  obtain ⟨m,l,h1,h2,h3,h4,h5⟩ := ht
  simp only [Fn.body,Fn.params,rhoOf,List.cons_append,List.nil_append]
  (unfold b_is_scalar; walk_at "X")
  have e : decide (T.form t ∈ [[98,111,111,108,101,97,110],[99,104,97,114],[98,121,116,101],[105,110,116,101,103,101,114],[115,101,116],[110,105,108],[112,111,105,110,116,101,114],[112,114,111,99]]) = !isSt (T.form t) := by
    simp only [List.mem_cons,List.not_mem_nil,or_false] at h5
    rcases h5 with e | e | e | e | e | e | e | e <;> rw [e] <;> decide
  rw [e]
  exact h
theorem c_result_of (hS : RS c s H) (hE : Env c T H) (k : ∀ H' z,z = (if isSt (T.form (typeP T s).1) then (T.ti,markS (typeP T s).2 (spo s.rs) [114,101,115,117,108,116,95,116,121,112,101]) else typeP T s) → RS c z.2 H' → Kp c H H' → TyOk T H' z.1 → Q (.ref z.1) H') : sp .f_result_of [.ref c.rd] H Q := by
  refine hC _ _ [] _ _ rfl ?_
  obtain ⟨tk0,hrd,htk⟩ := hS.tk
  simp only [Fn.body,Fn.params,rhoOf,List.cons_append,List.nil_append]
  (unfold b_result_of; walk_at "X")
  refine c_type_name hC hS hE fun H1 hS1 hk1 ht1 => ?_
  obtain ⟨tk1,hrd1,htk1⟩ := hS1.tk
  have her := hS1.er
  walk_at "X"
  refine c_is_scalar hC ht1 ?_
  walk_at "X"
  refine Brn.mk (fun e => ?_) fun e => ?_
  · have e : isSt (T.form (typeP T s).1) = false := by simpa using e
    walk_at "X"
    have := k H1 (typeP T s) (by rw [e]; rfl)
    exact this hS1 hk1 ht1
  · have e : isSt (T.form (typeP T s).1) = true := by simpa using e
    walk_at "X"
    refine c_mark hC hS1 hS.spot fun H2 hS2 hk2 => ?_
    obtain ⟨tk2,hrd2,-⟩ := hS2.tk
    have hty2 := hS2.ty
    walk_at "X"
    have := k H2 (T.ti,markS (typeP T s).2 (spo s.rs) [114,101,115,117,108,116,95,116,121,112,101]) (by rw [e]; rfl) hS2 (hk1.trans hk2)
    rw [hE.ti.1] at this
    exact this (hE.ti.2.keep hS (hk1.trans hk2))
theorem c_parameters {label md0 lb : Tx} {md : Addr} {n sz : Int} {form : Tx} {b0 : V} {f p qq : Addr} (hS : RS c s H) (hE : Env c T H) (hmd : H md = some (typeO n form sz b0 0 f p qq md0 lb)) (hoff : Off c T md H) (hb1 : s.ar + s.rs.length ≤ 1000) (hll : label.length ≤ 1000)
    (k : ∀ fd H',H fd = none → RS c (listP T ⟨s,[],0⟩).2.ps H' → FI c T label [] false fd (listP T ⟨s,[],0⟩).2 H' → H' md = some (typeO n form sz (.ref (listP T ⟨s,[],0⟩).1) 0 f fd qq md0 lb) → ((listP T ⟨s,[],0⟩).1 = T.tn ∨ TyOk T H' (listP T ⟨s,[],0⟩).1) → KpS c md H H' → Q (.ref fd) H') :
    sp .f_parameters [.ref c.rd,.str label,.ref md] H Q := by
  refine hC _ _ [] _ _ rfl ?_
  obtain ⟨tk0,hrd,htk⟩ := hS.tk
  have hty := hS.ty
  have hm1 := hS.nm hmd rfl
  simp only [Fn.body,Fn.params,rhoOf,List.cons_append,List.nil_append]
  (unfold b_parameters; walk_at "X")
  intro fd hfd
  have nfd : md ≠ fd := nf hmd hfd
  have nrw : fd ≠ c.rw := Ne.symm (nf hS.rw hfd)
  have mdm : fd ∉ muts c := hS.nmf hfd
  have g0 : KpS c md H (put (put (put H fd (.list [])) md (typeO n form sz (.ref c.tN) 0 f p qq md0 lb)) md (typeO n form sz (.ref c.tN) 0 f fd qq md0 lb)) := ((KpS.refl.putf hfd).putd).putd
  have g1 := hS.new (o := .list []) hfd
  have g2 := pt (x := .list []) hmd nfd
  have g3 := g1.putfree (o := typeO n form sz (.ref c.tN) 0 f p qq md0 lb) g2 (by decide)
  have g4 := g3.putfree (o := typeO n form sz (.ref c.tN) 0 f fd qq md0 lb) put_same (by decide)
  have g5 : put (put (put H fd (.list [])) md (typeO n form sz (.ref c.tN) 0 f p qq md0 lb)) md (typeO n form sz (.ref c.tN) 0 f fd qq md0 lb) fd = some (.list []) := pt (pt put_same (Ne.symm nfd)) (Ne.symm nfd)
  have g6 : put (put (put H fd (.list [])) md (typeO n form sz (.ref c.tN) 0 f p qq md0 lb)) md (typeO n form sz (.ref c.tN) 0 f fd qq md0 lb) md = some (typeO n form sz (.ref c.tN) 0 f fd qq md0 lb) := put_same
  have tyn := g1.ty
  obtain ⟨tk1,hrd1,htk1⟩ := g1.tk
  have tyn2 := g3.ty
  obtain ⟨tk3,hrd3,-⟩ := g3.tk
  obtain ⟨tk4,hrd4,-⟩ := g4.tk
  walk_at "X"
  generalize put (put (put H fd (.list [])) md (typeO n form sz (.ref c.tN) 0 f p qq md0 lb)) md (typeO n form sz (.ref c.tN) 0 f fd qq md0 lb) = H1 at *
  clear tyn tyn2 htk1 hrd1 hrd3 g1 g2 g3
  have F0 : FI c T label [] false fd ⟨s,[],0⟩ H1 := ⟨nrw,rfl,fun _ h => (nomatch h),⟨[],g5,trivial⟩,rfl,by simp⟩
  have hmd2 : ∀ {s' : PS} {H2 H3 : AH},RS c s' H2 → KpS c fd H2 H3 → H2 md = some (typeO n form sz (.ref c.tN) 0 f fd qq md0 lb) → H3 md = some (typeO n form sz (.ref c.tN) 0 f fd qq md0 lb) := fun hS' k' e => k' _ _ e (hS'.nm e rfl) nfd
  have fin : ∀ (q : QS) (H2 : AH) (ρ : Rho),RS c q.ps H2 → FI c T label [] false fd q H2 → H2 md = some (typeO n form sz (.ref c.tN) 0 f fd qq md0 lb) → KpS c md H H2 → ρ .n_rd = some (.ref c.rd) → ρ .n_made = some (.ref md) → ρ .n_found = some (.ref fd) →
      (listP T ⟨s,[],0⟩ = ((resultP T (expS q.ps [41])).1,{ q with ps := (resultP T (expS q.ps [41])).2 })) →
      wpSs sp [.expr (E.meth .c_Reader (E.loc .n_rd) .n_expect [(E.str [41])]),.ifs (E.meth .c_Reader (E.loc .n_rd) .n_skip [(E.str [58])]) [.sattr (E.loc .n_made) .n_base (E.call .f_result_of [(E.loc .n_rd)])] [],.ret (E.loc .n_found)] ρ H2 fun fl _ H' => Q (retOf fl) H' := by
    intro q H2 ρ hS2 hF2 hm2 hk2 r1 r2 r3 e
    rw [e] at k
    obtain ⟨tk2,hrd2,-⟩ := hS2.tk
    obtain ⟨ps2,hfd2,-⟩ := hF2.ps
    walk_at "X"
    refine c_rexp hC hS2 (by decide) (by decide) (by decide) fun b H3 hS3 hk3 => ?_
    have hF3 := hF2.keep (q' := { q with ps := (resultP T (expS q.ps [41])).2 }) (hk3.fz hS2) ((hk3 _ _ hfd2 (hS2.nml hfd2 nrw)).trans hfd2.symm) rfl rfl
    have hfd3 := hk3 _ _ hfd2 (hS2.nml hfd2 nrw)
    have hm3 := hk3.get hS2 hm2 rfl
    have hk03 := hk2.trans hk3.s
    obtain ⟨tk3,hrd3,-⟩ := hS3.tk
    walk_at "X"
    refine c_rskip hC hS3 (by decide) (fun e3 H4 hS4 hk4 => ?_) fun e3 => ?_
    · have hE4 := hoff.keep H4 (hk03.trans hk4.s)
      have hm4 := hk4.get hS3 hm3 rfl
      have hfd4 := hk4 _ _ hfd3 (hS3.nml hfd3 nrw)
      have hF4 := hF3.keep (q' := { q with ps := (resultP T (expS q.ps [41])).2 }) (hk4.fz hS3) (hfd4.trans hfd3.symm) rfl rfl
      walk_at "X"
      refine c_result_of hC hS4 hE4 fun H5 z ez hS5 hk5 hty5 => ?_
      have ez : z = resultP T (expS q.ps [41]) := by rw [resultP,if_pos e3]; exact ez
      have hm5 := hk5.get hS4 hm4 rfl
      have hfd5 := hk5 _ _ hfd4 (hS4.nml hfd4 nrw)
      have hF5 := hF4.keep (q' := { q with ps := (resultP T (expS q.ps [41])).2 }) (hk5.fz hS4) (hfd5.trans hfd4.symm) rfl rfl
      have nd : fd ≠ md := Ne.symm nfd
      walk_at "X"
      subst ez
      refine k fd (put H5 md (typeO n form sz (.ref (resultP T (expS q.ps [41])).1) 0 f fd qq md0 lb)) hfd (hS5.putfree hm5 (by decide)) (hF5.off _ hm5 (Ne.symm nfd)) put_same (.inr ?_) ((hk03.trans (hk4.s.trans hk5.s)).putd)
      exact hty5.base hm5
    · have er : resultP T (expS q.ps [41]) = (T.tn,expS q.ps [41]) := by rw [resultP,if_neg e3]
      rw [er] at k hF3
      have htn := (hoff.keep H3 hk03).tn
      walk_at "X"
      refine k fd H3 hfd hS3 hF3 ?_ (.inl rfl) hk03
      rw [htn]; exact hm3
  refine c_rskip hC g4 (by decide) (fun e2 H2 hS2 hk2 => ?_) fun e2 => ?_
  · obtain ⟨tk2,hrd2,-⟩ := hS2.tk
    have hfd2 := hk2 _ _ g5 (g4.nml g5 nrw)
    have hm2 := hk2.get g4 g6 rfl
    have hF2 := F0.keep (q' := ⟨stepS s,[],0⟩) (hk2.fz g4) (hfd2.trans g5.symm) rfl rfl
    have hk02 := g0.trans hk2.s
    have hs1 : (stepS s).rs.length < s.rs.length := stepS_len (by decide) e2
    have ha1 : (stepS s).ar = s.ar := rfl
    walk_at "X"
    refine c_rat hC hS2 ?_
    walk_at "X"
    refine Brn.mk (fun e3 => ?_) fun e3 => ?_
    · have e3 := of_decide_eq_true e3
      have z := fin ⟨stepS s,[],0⟩ H2 (put (put (put (put (fun _ => none) .n_made (.ref md)) .n_label (.str label)) .n_rd (.ref c.rd)) .n_found (.ref fd)) hS2 hF2 hm2 hk02 rfl rfl rfl (by
        simp only [listP]; rw [if_pos e2,if_pos (show so (stepS s).rs = _ from e3)])
      walk_at "Z"
      exact z
    · have e3 : so (stepS s).rs ≠ _ := fun q => e3 (decide_eq_true q)
      walk_at "X"
      refine c_section hC (q := ⟨stepS s,[],0⟩) hS2 (hoff.keep H2 hk02) hF2 (by dsimp only; omega) (by simp; omega) hll fun H3 hS3 hF3 hk3 => ?_
      have sl := sectionP_len T false ⟨stepS s,[],0⟩
      dsimp only at sl
      walk_at "X"
      refine whl_in fun P hP => ?_
      have main : ∀ (m : Nat) (q : QS) (H4 : AH),q.ps.rs.length ≤ m → q.ps.ar + q.ps.rs.length ≤ 1000 → q.pars.length + q.ps.rs.length ≤ 1000 → RS c q.ps H4 → FI c T label [] false fd q H4 → H4 md = some (typeO n form sz (.ref c.tN) 0 f fd qq md0 lb) → KpS c md H H4 →
          listP T ⟨s,[],0⟩ = ((resultP T (expS (furtherF T false m q).ps [41])).1,{ furtherF T false m q with ps := (resultP T (expS (furtherF T false m q).ps [41])).2 }) →
          P (put (put (put (put (fun _ => none) .n_made (.ref md)) .n_label (.str label)) .n_rd (.ref c.rd)) .n_found (.ref fd)) H4 := by
        intro m
        induction m with
        | zero =>
          intro q H4 hl _ _ hS4
          exact absurd (List.length_eq_zero_iff.mp (Nat.le_zero.mp hl)) hS4.ne
        | succ m ih =>
          intro q H4 hl4 hb4 hp4 hS4 hF4 hm4 hk4 he4
          refine hP _ _ ?_
          obtain ⟨tk4,hrd4,-⟩ := hS4.tk
          obtain ⟨ps4,hfd4,-⟩ := hF4.ps
          walk_at "X"
          refine c_rskip hC hS4 (by decide) (fun e4 H5 hS5 hk5 => ?_) fun e4 => ?_
          · rw [furtherF,if_pos e4] at he4
            have hl5 := stepS_len (by decide) e4
            have hfd5 := hk5 _ _ hfd4 (hS4.nml hfd4 nrw)
            have hF5 := hF4.keep (q' := { q with ps := stepS q.ps }) (hk5.fz hS4) (hfd5.trans hfd4.symm) rfl rfl
            have ha5 : (stepS q.ps).ar = q.ps.ar := rfl
            walk_at "X"
            refine c_section hC (q := { q with ps := stepS q.ps }) hS5 (hoff.keep H5 (hk4.trans hk5.s)) hF5 (by dsimp only; omega) (by simp; omega) hll fun H6 hS6 hF6 hk6 => ?_
            have sl := sectionP_len T false { q with ps := stepS q.ps }
            dsimp only at sl
            walk_at "X"
            exact ih _ H6 (by omega) (by omega) (by omega) hS6 hF6 (hmd2 hS5 hk6 (hk5.get hS4 hm4 rfl)) ((hk4.trans hk5.s).sub hk6 hfd) he4
          · rw [furtherF,if_neg e4] at he4
            have z := fin q H4 (put (put (put (put (fun _ => none) .n_made (.ref md)) .n_label (.str label)) .n_rd (.ref c.rd)) .n_found (.ref fd)) hS4 hF4 hm4 hk4 rfl rfl rfl he4
            walk_at "Z"
            exact z
      exact main (stepS s).rs.length _ H3 (by omega) (by omega) (by simp at sl; omega) hS3 hF3 (hmd2 hS2 hk3 hm2) (hk02.sub hk3 hfd) (by
        simp only [listP]; rw [if_pos e2,if_neg e3])
  · have el : listP T ⟨s,[],0⟩ = (T.tn,⟨s,[],0⟩) := by simp only [listP]; rw [if_neg e2]
    rw [el] at k
    walk_at "X"
    refine k fd H1 hfd g4 F0 ?_ (.inl rfl) g0
    rw [(hoff.keep H1 g0).tn]; exact g6
end
end
section

def rowV (r : Row) : V := .tup [.str r.1,.str r.2.1,.int r.2.2]
def Wf : List Row → Prop
  | [] => True
  | r :: q => (q = [] → r.1 = [101,111,102]) ∧ (r.1 = [105,100,101,110,116] → r.2.1 ∈ idV) ∧ r.2.2 ≤ 700000 ∧ r.2.1.length ≤ 10 ∧ Wf q
theorem Wf.drop : ∀ {rs : List Row} (i : Nat),Wf rs → Wf (rs.drop i)
  | rs,0,h => by simpa using h
  | [],i + 1,_ => by simp [Wf]
  | r :: q,i + 1,h => by simpa using Wf.drop i h.2.2.2.2
theorem Wf.tail {rs : List Row} (h : Wf rs) : Wf rs.tail := by simpa using h.drop 1
theorem Wf.ne {rs : List Row} (h : Wf rs) {k : Tx} (e : so rs = k) (hk : k ≠ [101,111,102]) : rs.tail ≠ [] := by
  cases rs with
  | nil => exact absurd e.symm hk
  | cons r q => intro z; exact hk (e ▸ h.1 z)
theorem Wf.idv {rs : List Row} (h : Wf rs) (e : so rs = [105,100,101,110,116]) : sg rs ∈ idV := by
  cases rs with
  | nil => exact absurd e (by decide)
  | cons r q => exact h.2.1 e
theorem Wf.spot {rs : List Row} (h : Wf rs) : spo rs ≤ 700000 := by
  cases rs with
  | nil => exact Nat.zero_le _
  | cons r q => exact h.2.2.1
def MkOk (m : Mk) : Prop := (m.map Prod.fst).Nodup ∧ ∀ q ∈ m,q.1 ≤ 700000
theorem MkOk.len {m : Mk} (h : MkOk m) : m.length ≤ 700001 := mk_len h.1 h.2
theorem MkOk.add {m : Mk} (h : MkOk m) {p : Nat} (hp : p ≤ 700000) (code : Tx) : MkOk (addM m p code) := by
  unfold addM
  split
  · exact h
  · next e =>
    refine ⟨?_,fun q hq => ?_⟩
    · rw [List.map_append,List.nodup_append]
      exact ⟨h.1,by simp,fun a ha b hb => by simp at hb; subst hb; exact fun z => e (z ▸ ha)⟩
    · rcases List.mem_append.mp hq with hq | hq
      · exact h.2 q hq
      · simp at hq; subst hq; exact hp
theorem row_at {R : List Row} {i : Nat} {rs : List Row} (h : R.drop i = rs) (ne : rs ≠ []) (hi : i ≤ 10000000) : It (R.map rowV) (i : Int) (.tup [.str (so rs),.str (sg rs),.int (spo rs)]) := by
  refine ⟨itemAt_nat ?_ hi⟩
  cases rs with
  | nil => exact absurd rfl ne
  | cons r q =>
    have : R[i]? = some r := by
      have := congrArg (·[0]?) h
      simpa using this
    rw [List.getElem?_map,this]; rfl
theorem drop_tail {R : List Row} {i : Nat} {rs : List Row} (h : R.drop i = rs) : R.drop (i + 1) = rs.tail := by rw [← h]; simp
def useV : Use → V
  | .ty a => .tup [.str [116,121,112,101],.ref a]
  | .mod => .tup [.str [109,111,100,117,108,101],.none]
  | .bad c => .tup [.str c,.none]
structure MeanOk (T : Tab) (m : List (Tx × V)) : Prop where
  u : ∀ n ∈ idV,(lk m n).getD (.tup [.str [117,110,100,101,102,105,110,101,100],.none]) = useV (T.U n)
  u2 : ∀ n ∈ idV,(lk m ([65,46] ++ n)).getD (.tup [.str [110,111,116,95,101,120,112,111,114,116,101,100],.none]) = useV (T.U2 n)
  c : ∀ n c,T.U n = .bad c → c ∈ ([[117,110,100,101,102,105,110,101,100],[110,111,116,95,97,95,116,121,112,101],[114,101,99,117,114,115,105,118,101,95,116,121,112,101]] : List Tx)
  c2 : ∀ n c,T.U2 n = .bad c → c ∈ ([[110,111,116,95,101,120,112,111,114,116,101,100],[110,111,116,95,97,95,116,121,112,101]] : List Tx)
  nm : ∀ n,T.U2 n ≠ .mod
theorem listM_tup0 : ∀ (m : Mk),listM (tupItem 0) (mkV m) = some (m.map fun q => .int q.1)
  | [] => rfl
  | q :: r => by
    have := listM_tup0 r
    simp only [mkV] at this
    simp only [mkV,List.map_cons,listM,tupItem,this]; rfl
theorem listM_int : ∀ (l : List Int),listM intOf (l.map V.int) = some l
  | [] => rfl
  | x :: l => by simp only [List.map_cons,listM,intOf,listM_int l]
theorem idV_len : idV.all (fun n => decide (n.length ≤ 10)) = true := by decide +kernel
section
variable {sp : Sp} (hC : Calls sp) {T : Tab} {s : PS} {H : AH} {Q : Post} {ra ma mn : Addr} {R : List Row} {m : List (Tx × V)} {i : Nat}
include hC
theorem c_lmark {ms : Mk} {p : Nat} {code : Tx} (hm : H ma = some (.list (mkV ms))) (ho : MkOk ms) (k : ∀ H',H' ma = some (.list (mkV (addM ms p code))) → KpX [ma] H H' → Q .none H') : sp .f_law_mark [.ref ma,.int p,.str code] H Q := by
  refine hC _ _ [] _ _ rfl ?_
  have hl := ho.len
  have hM := listM_tup0 ms
  have hlen : (mkV ms).length ≤ 1000000 := by simp [mkV]; omega
  have hlen2 : (mkV ms).length < 1000000 := by simp [mkV]; omega
  simp only [Fn.body,Fn.params,rhoOf,List.cons_append,List.nil_append]
  (unfold b_law_mark; walk_at "X")
  intro c hc
  have nc := nf hm hc
  have hI : listM intOf (ms.map fun q => V.int q.1) = some (ms.map fun q => (q.1 : Int)) := by
    have := listM_int (ms.map fun q => (q.1 : Int)); rwa [List.map_map] at this
  have hm2 := pt (x := .list (ms.map fun q => V.int q.1)) hm nc
  have hk : KpX [ma] H (put H c (.list (ms.map fun q => V.int q.1))) := KpX.refl.putf hc
  have g : put H c (.list (ms.map fun q => V.int q.1)) c = some (.list (ms.map fun q => V.int q.1)) := put_same
  generalize put H c (.list (ms.map fun q => V.int q.1)) = H1 at *
  walk_at "X"
  have iff : ((p : Int) ∈ ms.map fun q => (q.1 : Int)) ↔ p ∈ ms.map Prod.fst := by
    constructor
    · intro h; obtain ⟨q,hq,e⟩ := List.mem_map.mp h; exact List.mem_map.mpr ⟨q,hq,Int.ofNat.inj e⟩
    · intro h; obtain ⟨q,hq,e⟩ := List.mem_map.mp h; exact List.mem_map.mpr ⟨q,hq,congrArg Int.ofNat e⟩
  refine Brn.mk (fun e => ?_) fun e => ?_
  · have e := iff.mp e
    walk_at "X"
    exact k H1 (by rw [addM,if_pos e]; exact hm2) hk
  · have e : ¬ p ∈ ms.map Prod.fst := fun z => e (iff.mpr z)
    walk_at "X"
    refine k _ ?_ (hk.putm (by simp))
    rw [put_same,addM,if_neg e]; simp [mkV]
theorem c_lmeaning (hW : Wf R) (hM : MeanOk T m) (h1 : H ra = some (.list (R.map rowV))) (h2 : H ma = some (.list (mkV s.ms))) (h3 : H mn = some (.sd m)) (hi : R.drop i = s.rs) (hne : s.rs ≠ []) (hil : i ≤ 1000000) (ho : MkOk s.ms) (hra : ra ≠ ma)
    (k : ∀ H' i' v,R.drop i' = (typeP T s).2.rs → (typeP T s).2.rs ≠ [] → i' ≤ i + 3 → MkOk (typeP T s).2.ms → H' ma = some (.list (mkV (typeP T s).2.ms)) → KpX [ma] H H' → (v = .ref (typeP T s).1 ∨ (v = .none ∧ (typeP T s).1 = T.ti)) → Q (.tup [.int (i' : Nat),v]) H') :
    sp .f_law_meaning [.ref ra,.int i,.ref mn,.ref ma] H Q := by
  refine hC _ _ [] _ _ rfl ?_
  have hW0 : Wf s.rs := hi ▸ hW.drop i
  have a0 := row_at hi hne (by omega)
  have d1 := drop_tail hi
  have d2 := drop_tail d1
  have d3 := drop_tail d2
  simp only [Fn.body,Fn.params,rhoOf,List.cons_append,List.nil_append]
  (unfold b_law_meaning; walk_at "X")
  refine Brn.mk (fun e => ?_) fun e => ?_
  · -- an identifier
    have ne1 := hW0.ne e (by decide)
    have hid := hW0.idv e
    have u := hM.u _ hid
    have a1 := row_at d1 ne1 (by omega)
    rw [Int.natCast_add] at a1
    have a1 : It (R.map rowV) ((i : Int) + 1) _ := a1
    rw [typeP,if_pos e] at k
    have cu := hM.c (sg s.rs)
    walk_at "X"
    rw [u]
    generalize T.U (sg s.rs) = w at *
    cases w with
    | ty a =>
      simp only [useV]
      walk_at "X"
      exact k H (i + 1) (.ref a) d1 ne1 (by omega) ho h2 .refl (.inl rfl)
    | bad code =>
      simp only [useV]
      have cc := cu code rfl
      have n1 : code ≠ [109,111,100,117,108,101] := fun z => by rw [z] at cc; revert cc; decide
      have n2 : code ≠ [116,121,112,101] := fun z => by rw [z] at cc; revert cc; decide
      have n3 : code ≠ [110,111,116,95,101,120,112,111,114,116,101,100] := fun z => by rw [z] at cc; revert cc; decide
      walk_at "X"
      refine c_lmark hC h2 ho fun H' g1 g2 => ?_
      walk_at "X"
      exact k H' (i + 1) .none d1 ne1 (by omega) (ho.add hW0.spot _) g1 g2 (.inr ⟨rfl,rfl⟩)
    | mod =>
      simp only [useV]
      walk_at "X"
      dsimp only at k
      refine Brn.mk (fun e1 => ?_) fun e1 => ?_
      · rw [if_pos e1] at k
        have hW1 := hW0.tail
        have ne2 := hW1.ne e1 (by decide)
        have hW2 := hW1.tail
        have a2 := row_at d2 ne2 (by omega)
        have a2 : It (R.map rowV) ((i : Int) + 1 + 1) _ := a2
        walk_at "X"
        refine Brn.mk (fun e2 => ?_) fun e2 => ?_
        · rw [if_pos e2] at k
          have ne3 := hW2.ne e2 (by decide)
          have hid2 := hW2.idv e2
          have u2 := hM.u2 _ hid2
          have cu2 := hM.c2 (sg s.rs.tail.tail)
          have hnm := hM.nm (sg s.rs.tail.tail)
          have hl : ([65,46] : Tx).length + (sg s.rs.tail.tail).length ≤ 10000000 := by
            have := List.all_eq_true.mp idV_len _ hid2
            simp at this ⊢; omega
          walk_at "X"
          rw [u2]
          generalize T.U2 (sg s.rs.tail.tail) = w at *
          cases w with
          | ty a =>
            simp only [useV]
            walk_at "X"
            exact k H (i + 3) (.ref a) d3 ne3 (by omega) ho h2 .refl (.inl rfl)
          | mod => exact absurd rfl hnm
          | bad code =>
            simp only [useV]
            have cc := cu2 code rfl
            have n2 : code ≠ [116,121,112,101] := fun z => by rw [z] at cc; revert cc; decide
            walk_at "X"
            dsimp only at k
            refine Brn.mk (fun e3 => ?_) fun e3 => ?_
            · rw [if_pos e3] at k
              walk_at "X"
              refine c_lmark hC h2 ho fun H' g1 g2 => ?_
              walk_at "X"
              exact k H' (i + 3) .none d3 ne3 (by omega) (ho.add hW2.spot _) g1 g2 (.inr ⟨rfl,rfl⟩)
            · rw [if_neg e3] at k
              walk_at "X"
              refine c_lmark hC h2 ho fun H' g1 g2 => ?_
              walk_at "X"
              exact k H' (i + 3) .none d3 ne3 (by omega) (ho.add hW0.spot _) g1 g2 (.inr ⟨rfl,rfl⟩)
        · rw [if_neg e2] at k
          walk_at "X"
          refine c_lmark hC h2 ho fun H' g1 g2 => ?_
          walk_at "X"
          exact k H' (i + 2) .none d2 ne2 (by omega) (ho.add hW2.spot _) g1 g2 (.inr ⟨rfl,rfl⟩)
      · rw [if_neg e1] at k
        walk_at "X"
        refine c_lmark hC h2 ho fun H' g1 g2 => ?_
        walk_at "X"
        exact k H' (i + 1) .none d1 ne1 (by omega) (ho.add hW0.tail.spot _) g1 g2 (.inr ⟨rfl,rfl⟩)
  · rw [typeP,if_neg e] at k
    walk_at "X"
    refine c_lmark hC h2 ho fun H' g1 g2 => ?_
    walk_at "X"
    exact k H' i .none hi hne (by omega) (ho.add hW0.spot _) g1 g2 (.inr ⟨rfl,rfl⟩)
end
end
section
structure Kit where
  (ra mn ma pa : Addr)
  R : List Row
  m : List (Tx × V)
  T : Tab
  many : Nat
  H0 : AH
def parV (p : Par) : V := .tup [.str p.name,.int p.loc,.str p.kind,.bool p.closed,.int p.which,.ref p.t,.str p.owner]
def nmV (x : Tx × Nat) : V := .tup [.str x.1,.int x.2]
structure DOk (k : Kit) : Prop where
  ra : k.H0 k.ra = some (.list (k.R.map rowV))
  mn : k.H0 k.mn = some (.sd k.m)
  wf : Wf k.R
  me : MeanOk k.T k.m
  ln : k.R.length ≤ 1000
  ma : k.H0 k.ma = none
  pa : k.H0 k.pa = none
  ne : k.ma ≠ k.pa
  ti : TyOk k.T k.H0 k.T.ti
  u : ∀ n ∈ idV,∀ a,k.T.U n = .ty a → TyOk k.T k.H0 a
  u2 : ∀ n ∈ idV,∀ a,k.T.U2 n = .ty a → TyOk k.T k.H0 a
  my : k.many ≤ 100
abbrev Sec := Option (Bool × List (Tx × Nat) × Bool)
def SecR (k : Kit) (aa : Addr) (ρ : Rho) (H : AH) : Sec → Prop
  | none => True
  | some (vr,ns,op) => ρ .n_variable = some (.bool vr) ∧ ρ .n_opened = some (.bool op) ∧ ∃ nm,ρ .n_names = some (.ref nm) ∧ H nm = some (.list (ns.map nmV)) ∧ k.H0 nm = none ∧ nm ≠ k.ma ∧ nm ≠ k.pa ∧ nm ≠ aa ∧ ∀ x ∈ ns,x.1 ∈ idV ∧ x.2 ≤ 700000
def nlen : Sec → Nat
  | none => 0
  | some (_,ns,_) => ns.length
structure DS (k : Kit) (q : QS) (ag : List Tx) (back : Addr) (sec : Sec) (tt : Option Addr) (bh : Option Nat) (aa : Addr) (ρ : Rho) (H : AH) : Prop where
  r1 : ρ .n_rows = some (.ref k.ra)
  r2 : ρ .n_meanings = some (.ref k.mn)
  r3 : ρ .n_whole = some (.ref k.T.ti)
  r4 : ρ .n_none = some (.ref k.T.tn)
  r5 : ρ .n_many = some (.int k.many)
  r6 : ρ .n_marks = some (.ref k.ma)
  r7 : ρ .n_pars = some (.ref k.pa)
  r8 : ρ .n_agenda = some (.ref aa)
  r9 : ∃ i : Nat,ρ .n_at = some (.int i) ∧ k.R.drop i = q.ps.rs ∧ i ≤ 10000
  r10 : ρ .n_words = some (.int q.words)
  r11 : ρ .n_arrays = some (.int q.ps.ar)
  r12 : ρ .n_back = some (.ref back)
  ne : q.ps.rs ≠ []
  ok : MkOk q.ps.ms
  hma : H k.ma = some (.list (mkV q.ps.ms))
  hpa : H k.pa = some (.list (q.pars.map parV))
  haa : H aa = some (.list (ag.map V.str))
  faa : k.H0 aa = none
  na1 : aa ≠ k.ma
  na2 : aa ≠ k.pa
  ac : ∀ d ∈ ag,asc d = true
  base : KpX [] k.H0 H
  sc : SecR k aa ρ H sec
  tt : ∀ t,tt = some t → ρ .n_t = some (.ref t) ∧ TyOk k.T k.H0 t
  bh : ∀ b,bh = some b → ρ .n_behind = some (.int (b : Nat)) ∧ b ≤ 700000
  pl : q.pars.length + nlen sec + q.ps.rs.length ≤ 5000
  agl : ag.length ≤ 60
def dueB : List S := [.asg .n_deed (E.pop (E.loc .n_agenda)),.unpk [.n_sort,.n_sign,.n_spot] (E.idx (E.loc .n_rows) (E.loc .n_at)),.ifs (E.cmp .eq (E.loc .n_deed) (E.str [108,105,115,116])) [.ifs (E.cmp .eq (E.loc .n_sort) (E.str [40])) [.aug .n_at (E.int 1),.asg .n_agenda (E.ite (E.cmp .eq (E.idx (E.idx (E.loc .n_rows) (E.loc .n_at)) (E.int 0)) (E.str [41])) (E.list [(E.str [114,101,115,117,108,116]),(E.str [41])]) (E.list [(E.str [114,101,115,117,108,116]),(E.str [41]),(E.str [102,117,114,116,104,101,114]),(E.str [115,101,99,116,105,111,110])]))] []] [.ifs (E.cmp .eq (E.loc .n_deed) (E.str [102,117,114,116,104,101,114])) [.ifs (E.cmp .eq (E.loc .n_sort) (E.str [59])) [.aug .n_at (E.int 1),.aug .n_agenda (E.list [(E.str [102,117,114,116,104,101,114]),(E.str [115,101,99,116,105,111,110])])] []] [.ifs (E.cmp .eq (E.loc .n_deed) (E.str [115,101,99,116,105,111,110])) [.asg .n_variable (E.cmp .eq (E.loc .n_sort) (E.str [86,65,82])),.aug .n_at (E.ite (E.loc .n_variable) (E.int 1) (E.int 0)),.asg .n_names (E.list []),.asg .n_opened (E.bool false),.aug .n_agenda (E.list [(E.str [101,110,116,101,114,101,100]),(E.str [102,111,114,109,97,108]),(E.str [58]),(E.str [110,97,109,101])])] [.ifs (E.cmp .eq (E.loc .n_deed) (E.str [110,97,109,101])) [.ifs (E.cmp .ne (E.loc .n_sort) (E.str [105,100,101,110,116])) [.expr (E.call .f_law_mark [(E.loc .n_marks),(E.loc .n_spot),(E.str [101,120,112,101,99,116,101,100,32,105,100,101,110,116,105,102,105,101,114])]),.cont] [],.expr (E.append (E.loc .n_names) (E.tup [(E.loc .n_sign),(E.loc .n_spot)])),.aug .n_at (E.int 1),.ifs (E.cmp .eq (E.idx (E.idx (E.loc .n_rows) (E.loc .n_at)) (E.int 0)) (E.str [44])) [.aug .n_at (E.int 1),.expr (E.append (E.loc .n_agenda) (E.str [110,97,109,101]))] []] [.ifs (E.cmp .eq (E.loc .n_deed) (E.str [102,111,114,109,97,108])) [.expr (E.append (E.loc .n_agenda) (E.str [110,97,109,101,100])),.ifs (E.cmp .eq (E.loc .n_sort) (E.str [65,82,82,65,89])) [.aug .n_at (E.int 1),.asg .n_opened (E.bool true),.aug .n_agenda (E.list [(E.str [110,111,95,97,114,114,97,121]),(E.str [79,70])])] []] [.ifs (E.cmp .eq (E.loc .n_deed) (E.str [110,111,95,97,114,114,97,121])) [.ifs (E.cmp .eq (E.loc .n_sort) (E.str [65,82,82,65,89])) [.expr (E.call .f_law_mark [(E.loc .n_marks),(E.loc .n_spot),(E.str [111,112,101,110,95,97,114,114,97,121])]),.expr (E.append (E.loc .n_agenda) (E.str [112,97,115,115,101,100]))] []] [.ifs (E.cmp .eq (E.loc .n_deed) (E.str [112,97,115,115,101,100])) [.ifs (E.cmp .eq (E.loc .n_sort) (E.str [65,82,82,65,89])) [.aug .n_at (E.int 1),.aug .n_agenda (E.list [(E.str [112,97,115,115,101,100]),(E.str [79,70])])] []] [.ifs (E.cmp .eq (E.loc .n_deed) (E.str [110,97,109,101,100])) [.unpk [.n_at,.n_found] (E.call .f_law_meaning [(E.loc .n_rows),(E.loc .n_at),(E.loc .n_meanings),(E.loc .n_marks)]),.asg .n_t (E.ite (E.cmp .is_ (E.loc .n_found) E.none) (E.loc .n_whole) (E.loc .n_found))] [.ifs (E.cmp .eq (E.loc .n_deed) (E.str [101,110,116,101,114,101,100])) [.aug .n_arrays (E.ite (E.loc .n_opened) (E.int 1) (E.int 0)),.asg .n_owner (E.ite (E.cmp .ne (E.loc .n_names) (E.list [])) (E.idx (E.idx (E.loc .n_names) (E.int 0)) (E.int 0)) (E.str [])),.asg .n_closed (E.and [(E.or [(E.loc .n_opened),(E.cmp .isin (E.attr (E.loc .n_t) .n_form) (E.list [(E.str [97,114,114,97,121]),(E.str [114,101,99,111,114,100])]))]),(E.not (E.loc .n_variable))]),.forT [.n_name,.n_where] (E.loc .n_names) [.ifs (E.or [(E.cmp .isin (E.loc .n_name) (E.compI (E.loc .n_pars) .n_one 0)),(E.and [(E.cmp .gt (E.loc .n_many) (E.int 0)),(E.cmp .eq (E.loc .n_name) (E.str [97,48]))])]) [.expr (E.call .f_law_mark [(E.loc .n_marks),(E.loc .n_where),(E.str [100,101,102,105,110,101,100,95,116,119,105,99,101])]),.cont] [],.expr (E.append (E.loc .n_pars) (E.tup [(E.loc .n_name),(E.loc .n_where),(E.ite (E.or [(E.loc .n_closed),(E.loc .n_variable)]) (E.str [112,97,114]) (E.str [118,97,114])),(E.loc .n_closed),(E.ite (E.loc .n_opened) (E.loc .n_arrays) (E.int 0)),(E.loc .n_t),(E.loc .n_owner)])),.aug .n_words (E.ite (E.or [(E.loc .n_opened),(E.cmp .eq (E.attr (E.loc .n_t) .n_form) (E.str [114,101,99,111,114,100]))]) (E.int 2) (E.int 1)),.ifs (E.cmp .gt (E.loc .n_words) (E.int 60)) [.expr (E.call .f_law_mark [(E.loc .n_marks),(E.loc .n_where),(E.str [116,111,111,95,108,97,114,103,101])])] []]] [.ifs (E.cmp .eq (E.loc .n_deed) (E.str [114,101,115,117,108,116])) [.ifs (E.cmp .eq (E.loc .n_sort) (E.str [58])) [.aug .n_at (E.int 1),.asg .n_behind (E.idx (E.idx (E.loc .n_rows) (E.loc .n_at)) (E.int 2)),.aug .n_agenda (E.list [(E.str [115,105,110,103,108,101]),(E.str [110,97,109,101,100])])] []] [.ifs (E.cmp .eq (E.loc .n_deed) (E.str [115,105,110,103,108,101])) [.asg .n_back (E.loc .n_t),.ifs (E.cmp .isin (E.attr (E.loc .n_t) .n_form) (E.list [(E.str [97,114,114,97,121]),(E.str [114,101,99,111,114,100])])) [.expr (E.call .f_law_mark [(E.loc .n_marks),(E.loc .n_behind),(E.str [114,101,115,117,108,116,95,116,121,112,101])]),.asg .n_back (E.loc .n_whole)] []] [.ifs (E.cmp .eq (E.loc .n_sort) (E.loc .n_deed)) [.aug .n_at (E.int 1)] [.expr (E.call .f_law_mark [(E.loc .n_marks),(E.loc .n_spot),(E.bin .add (E.str [101,120,112,101,99,116,101,100,32]) (E.loc .n_deed))])]]]]]]]]]]]]]
def dueT : E := (E.cmp .ne (E.loc .n_agenda) (E.list []))
def dueR : List S := dueB.drop 2
theorem datL_str : ∀ {l : List Tx},(∀ d ∈ l,asc d = true) → datL (l.map V.str) = true
  | [],_ => rfl
  | x :: l,h => by
    simp only [List.map_cons,datL,V.dat,Bool.and_eq_true]
    exact ⟨h x List.mem_cons_self,datL_str fun d hd => h d (List.mem_cons_of_mem _ hd)⟩
theorem depthL_str : ∀ (l : List Tx),depthL (l.map V.str) = 0
  | [] => rfl
  | x :: l => by simp [depthL,V.depth,depthL_str l]
theorem mixL_nil (l : List V) : mixL l [] = true := by cases l <;> rfl
section
variable {sp : Sp} (hC : Calls sp) {k : Kit} (hk : DOk k) {q : QS} {ag : List Tx} {back : Addr} {sec : Sec} {tt : Option Addr} {bh : Option Nat} {aa : Addr} {ρ : Rho} {H : AH} {Q : SPost} {P : Rho → AH → Prop}
theorem DS.keepF (D : DS k q ag back sec tt bh aa ρ H) {c : Addr} {o : O} (hc : H c = none) : DS k q ag back sec tt bh aa ρ (put H c o) := by
  obtain ⟨r1,r2,r3,r4,r5,r6,r7,r8,r9,r10,r11,r12,ne,ok,hma,hpa,haa,faa,na1,na2,ac,base,sc,t1,b1,pl,agl⟩ := D
  refine ⟨r1,r2,r3,r4,r5,r6,r7,r8,r9,r10,r11,r12,ne,ok,pt hma (nf hma hc),pt hpa (nf hpa hc),pt haa (nf haa hc),faa,na1,na2,ac,base.putf (base.fr hc (by simp)),?_,t1,b1,pl,agl⟩
  cases sec with
  | none => trivial
  | some s =>
    obtain ⟨vr,ns,op⟩ := s
    obtain ⟨s1,s2,nm,s3,s4,s5⟩ := sc
    exact ⟨s1,s2,nm,s3,pt s4 (nf s4 hc),s5⟩
theorem DS.rho (D : DS k q ag back sec tt bh aa ρ H) {ρ' : Rho} (h : ∀ n ∈ [N.n_rows,.n_meanings,.n_whole,.n_none,.n_many,.n_marks,.n_pars,.n_agenda,.n_at,.n_words,.n_arrays,.n_back,.n_variable,.n_opened,.n_names,.n_t,.n_behind],ρ' n = ρ n) : DS k q ag back sec tt bh aa ρ' H := by
  obtain ⟨r1,r2,r3,r4,r5,r6,r7,r8,r9,r10,r11,r12,ne,ok,hma,hpa,haa,faa,na1,na2,ac,base,sc,t1,b1,pl,agl⟩ := D
  simp only [List.mem_cons,List.not_mem_nil,or_false,forall_eq_or_imp,forall_eq] at h
  obtain ⟨e1,e2,e3,e4,e5,e6,e7,e8,e9,e10,e11,e12,e13,e14,e15,e16,e17⟩ := h
  refine ⟨e1.trans r1,e2.trans r2,e3.trans r3,e4.trans r4,e5.trans r5,e6.trans r6,e7.trans r7,e8.trans r8,?_,e10.trans r10,e11.trans r11,e12.trans r12,ne,ok,hma,hpa,haa,faa,na1,na2,ac,base,?_,fun t ht => ⟨e16.trans (t1 t ht).1,(t1 t ht).2⟩,fun b hb => ⟨e17.trans (b1 b hb).1,(b1 b hb).2⟩,pl,agl⟩
  · obtain ⟨i,a,b⟩ := r9; exact ⟨i,e9.trans a,b⟩
  · cases sec with
    | none => trivial
    | some s =>
      obtain ⟨vr,ns,op⟩ := s
      obtain ⟨s1,s2,nm,s3,s4⟩ := sc
      exact ⟨e13.trans s1,e14.trans s2,nm,e15.trans s3,s4⟩
theorem DS.agd (D : DS k q ag back sec tt bh aa ρ H) {ag' : List Tx} (h : ∀ d ∈ ag',asc d = true) (hl : ag'.length ≤ 60) : DS k q ag' back sec tt bh aa ρ (put H aa (.list (ag'.map V.str))) := by
  obtain ⟨r1,r2,r3,r4,r5,r6,r7,r8,r9,r10,r11,r12,ne,ok,hma,hpa,haa,faa,na1,na2,ac,base,sc,t1,b1,pl,agl⟩ := D
  refine ⟨r1,r2,r3,r4,r5,r6,r7,r8,r9,r10,r11,r12,ne,ok,pt hma (Ne.symm na1),pt hpa (Ne.symm na2),put_same,faa,na1,na2,h,base.putf faa,?_,t1,b1,pl,hl⟩
  cases sec with
  | none => trivial
  | some s =>
    obtain ⟨vr,ns,op⟩ := s
    obtain ⟨s1,s2,nm,s3,s4,s5,s6,s7,s8,s9⟩ := sc
    exact ⟨s1,s2,nm,s3,pt s4 s8,s5,s6,s7,s8,s9⟩
theorem DS.mkd (D : DS k q ag back sec tt bh aa ρ H) (hk : DOk k) {ms' : Mk} {H' : AH} (h : H' k.ma = some (.list (mkV ms'))) (hkp : KpX [k.ma] H H') (ho : MkOk ms') : DS k { q with ps := { q.ps with ms := ms' } } ag back sec tt bh aa ρ H' := by
  obtain ⟨r1,r2,r3,r4,r5,r6,r7,r8,r9,r10,r11,r12,ne,ok,hma,hpa,haa,faa,na1,na2,ac,base,sc,t1,b1,pl,agl⟩ := D
  refine ⟨r1,r2,r3,r4,r5,r6,r7,r8,r9,r10,r11,r12,ne,ho,h,hkp _ _ hpa (by simpa using Ne.symm hk.ne),hkp _ _ haa (by simpa using na1),faa,na1,na2,ac,fun a o e n => hkp a o (base a o e n) (by simpa using nf e hk.ma),?_,t1,b1,pl,agl⟩
  cases sec with
  | none => trivial
  | some s =>
    obtain ⟨vr,ns,op⟩ := s
    obtain ⟨s1,s2,nm,s3,s4,s5,s6,s7⟩ := sc
    exact ⟨s1,s2,nm,s3,hkp _ _ s4 (by simpa using s6),s5,s6,s7⟩
theorem due_turn (hP : ∀ ρ H,wpT sp ρ dueT H (fun H1 => wpSs sp dueB ρ H1 (whK Q P)) (fun H1 => Q .next ρ H1) → P ρ H) (hk : DOk k) {d : Tx} (D : DS k q (ag ++ [d]) back sec tt bh aa ρ H)
    (h : ∀ ρ' H',DS k q ag back sec tt bh aa ρ' H' → ρ' .n_deed = some (.str d) → ρ' .n_sort = some (.str (so q.ps.rs)) → ρ' .n_sign = some (.str (sg q.ps.rs)) → ρ' .n_spot = some (.int (spo q.ps.rs)) → wpSs sp dueR ρ' H' (whK Q P)) : P ρ H := by
  refine hP _ _ ?_
  have d1 := D.r8
  have d2 := D.haa
  have d3 := D.r1
  obtain ⟨i,d4,d5,d6⟩ := D.r9
  have a0 := row_at d5 D.ne (by omega)
  have hra := D.base _ _ hk.ra (by simp)
  unfold dueT dueB
  walk_at "X"
  intro c hc
  have D1 := D.keepF (o := .list []) hc
  have e1 := D1.haa
  have e2 : put H c (.list []) c = some (.list []) := put_same
  have e3 := D1.base _ _ hk.ra (by simp)
  generalize put H c (.list []) = H1 at *
  have hcmp : comparable ((ag ++ [d]).map V.str) [] := ⟨datL_str D.ac,rfl,mixL_nil _,by rw [depthL_str]; omega,Nat.zero_le _⟩
  have hne : ¬ (ag ++ [d]).map V.str = [] := by simp
  have hgl : ((ag ++ [d]).map V.str).getLast? = some (.str d) := by simp
  have hpl : ((ag ++ [d]).map V.str).dropLast = ag.map V.str := by simp
  have agl := D.agl
  simp only [List.length_append,List.length_cons,List.length_nil] at agl
  have hl : ((ag ++ [d]).map V.str).length ≤ 1000000 := by simp; omega
  have D2 := D1.agd (ag' := ag) (fun x hx => D.ac x (List.mem_append_left _ hx)) (by omega)
  have hra2 := D2.base _ _ hk.ra (by simp)
  rw [← hpl] at hra2 D2
  walk_at "X"
  have z := h (putAll (put ρ .n_deed (.str d)) [.n_sort,.n_sign,.n_spot] [.str (so q.ps.rs),.str (sg q.ps.rs),.int (spo q.ps.rs)]) _ (D2.rho (by simp [put_apply,putAll])) rfl rfl rfl rfl
  unfold dueR dueB at z
  simp only [List.drop] at z
  walk_at "z"
  exact z
end
end
section

def Wp (k : Kit) (P : Rho → AH → Prop) (q : QS) (ag : List Tx) (back : Addr) (sec : Sec) (tt : Option Addr) (bh : Option Nat) : Prop := ∀ aa ρ H,DS k q ag back sec tt bh aa ρ H → P ρ H
section
variable {k : Kit} {q : QS} {ag : List Tx} {back : Addr} {sec : Sec} {tt : Option Addr} {bh : Option Nat} {aa : Addr} {ρ : Rho} {H : AH}
theorem SecR.rho {ρ' : Rho} (h : SecR k aa ρ H sec) (e : ∀ n ∈ [N.n_variable,.n_opened,.n_names],ρ' n = ρ n) : SecR k aa ρ' H sec := by
  cases sec with
  | none => trivial
  | some s =>
    obtain ⟨vr,ns,op⟩ := s
    obtain ⟨s1,s2,nm,s3,s4⟩ := h
    exact ⟨(e _ (by simp)).trans s1,(e _ (by simp)).trans s2,nm,(e _ (by simp)).trans s3,s4⟩
theorem DS.u_at (D : DS k q ag back sec tt bh aa ρ H) (hk : DOk k) {i : Nat} (h : k.R.drop i = q.ps.rs) (ne : q.ps.rs.tail ≠ []) : DS k { q with ps := stepS q.ps } ag back sec tt bh aa (put ρ .n_at (.int ((i : Int) + 1))) H := by
  obtain ⟨r1,r2,r3,r4,r5,r6,r7,r8,r9,r10,r11,r12,ne0,ok,hma,hpa,haa,faa,na1,na2,ac,base,sc,t1,b1,pl,agl⟩ := D
  have hi : i < k.R.length := Nat.lt_of_not_le fun z => ne0 (by rw [← h,List.drop_eq_nil_of_le z])
  have hln := hk.ln
  refine ⟨r1,r2,r3,r4,r5,r6,r7,r8,⟨i + 1,rfl,drop_tail h,by omega⟩,r10,r11,r12,ne,ok,hma,hpa,haa,faa,na1,na2,ac,base,sc.rho fun n hn => ?_,t1,b1,?_,agl⟩
  · simp only [List.mem_cons,List.not_mem_nil,or_false] at hn; rcases hn with rfl | rfl | rfl <;> rfl
  · simp only [stepS,List.length_tail]; omega
theorem DS.u_tmp (D : DS k q ag back sec tt bh aa ρ H) {n : N} {v : V} (hn : n ∉ [N.n_rows,.n_meanings,.n_whole,.n_none,.n_many,.n_marks,.n_pars,.n_agenda,.n_at,.n_words,.n_arrays,.n_back,.n_variable,.n_opened,.n_names,.n_t,.n_behind]) : DS k q ag back sec tt bh aa (put ρ n v) H :=
  D.rho fun x hx => put_ne fun e => hn (e ▸ hx)
theorem DS.u_ag (D : DS k q ag back sec tt bh aa ρ H) {ag' : List Tx} {xs : List V} (hx : xs = ag'.map V.str) (h : ∀ d ∈ ag',asc d = true) (hl : ag'.length ≤ 60) : DS k q ag' back sec tt bh aa ρ (put H aa (.list xs)) := hx ▸ D.agd h hl
theorem DS.u_push (D : DS k q ag back sec tt bh aa ρ H) (ds : List Tx) {c : Addr} (hc : H c = none) (h : ∀ d ∈ ds,asc d = true) (hl : ag.length + ds.length ≤ 60) :
    DS k q (ag ++ ds) back sec tt bh aa (put ρ .n_agenda (.ref aa)) (put (put H c (.list (ds.map V.str))) aa (.list (ag.map V.str ++ ds.map V.str))) := by
  refine DS.rho (((D.keepF hc).u_ag (ag' := ag ++ ds) (by simp) (fun d hd => ?_) (by simpa using hl))) fun n hn => ?_
  · rcases List.mem_append.mp hd with hd | hd
    · exact D.ac d hd
    · exact h d hd
  · by_cases e : n = .n_agenda
    · subst e; rw [put_same,D.r8]
    · exact put_ne e
theorem DS.u_app (D : DS k q ag back sec tt bh aa ρ H) {d : Tx} (h : asc d = true) (hl : ag.length + 1 ≤ 60) : DS k q (ag ++ [d]) back sec tt bh aa ρ (put H aa (.list (ag.map V.str ++ [.str d]))) := by
  refine D.u_ag (ag' := ag ++ [d]) (by simp) (fun x hx => ?_) (by simpa using hl)
  rcases List.mem_append.mp hx with hx | hx
  · exact D.ac x hx
  · rw [List.mem_singleton.mp hx]; exact h
theorem DS.u_newag (D : DS k q ag back sec tt bh aa ρ H) (ds : List Tx) {c : Addr} (hc : H c = none) (h : ∀ d ∈ ds,asc d = true) (hl : ds.length ≤ 60) : DS k q ds back sec tt bh c (put ρ .n_agenda (.ref c)) (put H c (.list (ds.map V.str))) := by
  obtain ⟨r1,r2,r3,r4,r5,r6,r7,r8,r9,r10,r11,r12,ne0,ok,hma,hpa,haa,faa,na1,na2,ac,base,sc,t1,b1,pl,agl⟩ := D
  refine ⟨r1,r2,r3,r4,r5,r6,r7,rfl,r9,r10,r11,r12,ne0,ok,pt hma (nf hma hc),pt hpa (nf hpa hc),put_same,base.fr hc (by simp),Ne.symm (nf hma hc),Ne.symm (nf hpa hc),h,base.putf (base.fr hc (by simp)),?_,t1,b1,pl,hl⟩
  cases sec with
  | none => trivial
  | some s =>
    obtain ⟨vr,ns,op⟩ := s
    obtain ⟨s1,s2,nm,s3,s4,s5,s6,s7,s8,s9⟩ := sc
    exact ⟨s1,s2,nm,s3,pt s4 (nf s4 hc),s5,s6,s7,nf s4 hc,s9⟩
theorem DS.u_sec (D : DS k q ag back sec tt bh aa ρ H) {vr : Bool} {c : Addr} (hc : H c = none) (hv : ρ .n_variable = some (.bool vr)) : DS k q ag back (some (vr,[],false)) tt bh aa (put (put ρ .n_names (.ref c)) .n_opened (.bool false)) (put H c (.list [])) := by
  obtain ⟨r1,r2,r3,r4,r5,r6,r7,r8,r9,r10,r11,r12,ne0,ok,hma,hpa,haa,faa,na1,na2,ac,base,sc,t1,b1,pl,agl⟩ := D
  exact ⟨r1,r2,r3,r4,r5,r6,r7,r8,r9,r10,r11,r12,ne0,ok,pt hma (nf hma hc),pt hpa (nf hpa hc),pt haa (nf haa hc),faa,na1,na2,ac,base.putf (base.fr hc (by simp)),
    ⟨hv,rfl,c,rfl,put_same,base.fr hc (by simp),Ne.symm (nf hma hc),Ne.symm (nf hpa hc),Ne.symm (nf haa hc),fun _ h => nomatch h⟩,t1,b1,by simp only [nlen,List.length_nil]; omega,agl⟩
theorem DS.u_nosec (D : DS k q ag back sec tt bh aa ρ H) : DS k q ag back none tt bh aa ρ H := by
  obtain ⟨r1,r2,r3,r4,r5,r6,r7,r8,r9,r10,r11,r12,ne0,ok,hma,hpa,haa,faa,na1,na2,ac,base,sc,t1,b1,pl,agl⟩ := D
  exact ⟨r1,r2,r3,r4,r5,r6,r7,r8,r9,r10,r11,r12,ne0,ok,hma,hpa,haa,faa,na1,na2,ac,base,trivial,t1,b1,by simp only [nlen]; omega,agl⟩
theorem DS.u_var (D : DS k q ag back sec tt bh aa ρ H) {v : V} : DS k q ag back none tt bh aa (put ρ .n_variable v) H := by
  obtain ⟨r1,r2,r3,r4,r5,r6,r7,r8,r9,r10,r11,r12,ne0,ok,hma,hpa,haa,faa,na1,na2,ac,base,sc,t1,b1,pl,agl⟩ := D
  exact ⟨r1,r2,r3,r4,r5,r6,r7,r8,r9,r10,r11,r12,ne0,ok,hma,hpa,haa,faa,na1,na2,ac,base,trivial,t1,b1,by simp only [nlen]; omega,agl⟩
theorem DS.u_open {vr op : Bool} {ns : List (Tx × Nat)} (D : DS k q ag back (some (vr,ns,op)) tt bh aa ρ H) {o2 : Bool} : DS k q ag back (some (vr,ns,o2)) tt bh aa (put ρ .n_opened (.bool o2)) H := by
  obtain ⟨r1,r2,r3,r4,r5,r6,r7,r8,r9,r10,r11,r12,ne0,ok,hma,hpa,haa,faa,na1,na2,ac,base,⟨s1,s2,nm,s3,s4⟩,t1,b1,pl,agl⟩ := D
  exact ⟨r1,r2,r3,r4,r5,r6,r7,r8,r9,r10,r11,r12,ne0,ok,hma,hpa,haa,faa,na1,na2,ac,base,⟨s1,rfl,nm,s3,s4⟩,t1,b1,pl,agl⟩
theorem DS.u_name {vr op : Bool} {ns : List (Tx × Nat)} (D : DS k q ag back (some (vr,ns,op)) tt bh aa ρ H) (hk : DOk k) {i : Nat} (h : k.R.drop i = q.ps.rs) (ne : q.ps.rs.tail ≠ []) {nm : Addr} {x : Tx × Nat} (hn : ρ .n_names = some (.ref nm)) (hx : x.1 ∈ idV ∧ x.2 ≤ 700000) :
    DS k { q with ps := stepS q.ps } ag back (some (vr,ns ++ [x],op)) tt bh aa (put ρ .n_at (.int ((i : Int) + 1))) (put H nm (.list (ns.map nmV ++ [nmV x]))) := by
  have D2 := D.u_at hk h ne
  obtain ⟨r1,r2,r3,r4,r5,r6,r7,r8,r9,r10,r11,r12,ne0,ok,hma,hpa,haa,faa,na1,na2,ac,base,⟨s1,s2,nm',s3,s4,s5,s6,s7,s8,s9⟩,t1,b1,pl,agl⟩ := D2
  have hl : q.ps.rs.length = q.ps.rs.tail.length + 1 := by
    cases hq : q.ps.rs with
    | nil => rw [hq] at ne; exact absurd rfl ne
    | cons => rfl
  have e : nm' = nm := by
    have s3 : ρ .n_names = some (.ref nm') := s3
    rw [hn] at s3; cases s3; rfl
  subst e
  refine ⟨r1,r2,r3,r4,r5,r6,r7,r8,r9,r10,r11,r12,ne0,ok,pt hma (Ne.symm s6),pt hpa (Ne.symm s7),pt haa (Ne.symm s8),faa,na1,na2,ac,base.putf s5,⟨s1,s2,nm',s3,?_,s5,s6,s7,s8,?_⟩,t1,b1,?_,agl⟩
  · rw [put_same]; simp
  · intro y hy
    rcases List.mem_append.mp hy with hy | hy
    · exact s9 y hy
    · rw [List.mem_singleton.mp hy]; exact hx
  · have := D.pl; simp only [stepS,nlen,List.length_append,List.length_cons,List.length_nil] at *; omega
theorem DS.u_t (D : DS k q ag back sec tt bh aa ρ H) {t : Addr} (h : TyOk k.T k.H0 t) : DS k q ag back sec (some t) bh aa (put ρ .n_t (.ref t)) H := by
  obtain ⟨r1,r2,r3,r4,r5,r6,r7,r8,r9,r10,r11,r12,ne0,ok,hma,hpa,haa,faa,na1,na2,ac,base,sc,t1,b1,pl,agl⟩ := D
  refine ⟨r1,r2,r3,r4,r5,r6,r7,r8,r9,r10,r11,r12,ne0,ok,hma,hpa,haa,faa,na1,na2,ac,base,sc.rho fun n hn => ?_,fun t' e => by cases e; exact ⟨rfl,h⟩,b1,pl,agl⟩
  simp only [List.mem_cons,List.not_mem_nil,or_false] at hn; rcases hn with rfl | rfl | rfl <;> rfl
theorem DS.u_bh (D : DS k q ag back sec tt bh aa ρ H) {b : Nat} (h : b ≤ 700000) : DS k q ag back sec tt (some b) aa (put ρ .n_behind (.int b)) H := by
  obtain ⟨r1,r2,r3,r4,r5,r6,r7,r8,r9,r10,r11,r12,ne0,ok,hma,hpa,haa,faa,na1,na2,ac,base,sc,t1,b1,pl,agl⟩ := D
  refine ⟨r1,r2,r3,r4,r5,r6,r7,r8,r9,r10,r11,r12,ne0,ok,hma,hpa,haa,faa,na1,na2,ac,base,sc.rho fun n hn => ?_,t1,fun t' e => by cases e; exact ⟨rfl,h⟩,pl,agl⟩
  simp only [List.mem_cons,List.not_mem_nil,or_false] at hn; rcases hn with rfl | rfl | rfl <;> rfl
theorem DS.u_back (D : DS k q ag back sec tt bh aa ρ H) {b : Addr} : DS k q ag b sec tt bh aa (put ρ .n_back (.ref b)) H := by
  obtain ⟨r1,r2,r3,r4,r5,r6,r7,r8,r9,r10,r11,r12,ne0,ok,hma,hpa,haa,faa,na1,na2,ac,base,sc,t1,b1,pl,agl⟩ := D
  refine ⟨r1,r2,r3,r4,r5,r6,r7,r8,r9,r10,r11,rfl,ne0,ok,hma,hpa,haa,faa,na1,na2,ac,base,sc.rho fun n hn => ?_,t1,b1,pl,agl⟩
  simp only [List.mem_cons,List.not_mem_nil,or_false] at hn; rcases hn with rfl | rfl | rfl <;> rfl
end
section
variable {sp : Sp} (hC : Calls sp) {k : Kit} (hk : DOk k) {q : QS} {ag : List Tx} {back : Addr} {sec : Sec} {tt : Option Addr} {bh : Option Nat} {Q : SPost} {P : Rho → AH → Prop}
  (hP : ∀ ρ H,wpT sp ρ dueT H (fun H1 => wpSs sp dueB ρ H1 (whK Q P)) (fun H1 => Q .next ρ H1) → P ρ H)
include hC hk hP
theorem d_further (hag : ag.length ≤ 40) (h1 : so q.ps.rs = [59] → Wp k P { q with ps := stepS q.ps } (ag ++ [[102,117,114,116,104,101,114],[115,101,99,116,105,111,110]]) back sec tt bh) (h2 : so q.ps.rs ≠ [59] → Wp k P q ag back sec tt bh) : Wp k P q (ag ++ [[102,117,114,116,104,101,114]]) back sec tt bh := by
  intro aa ρ H D
  refine due_turn hP hk D fun ρ H D e1 e2 e3 e4 => ?_
  obtain ⟨i,q9,q9b,q9c⟩ := D.r9
  have q1 := D.r1; have q2 := D.r2; have q3 := D.r3; have q4 := D.r4; have q5 := D.r5; have q6 := D.r6; have q7 := D.r7; have q8 := D.r8; have q10 := D.r10; have q11 := D.r11; have q12 := D.r12; have qa := D.haa; have qm := D.hma; have qp := D.hpa; have qr := D.base _ _ hk.ra (by simp); have qn := D.base _ _ hk.mn (by simp)
  unfold dueR dueB; simp only [List.drop]
  have hw := hk.wf.drop i
  rw [q9b] at hw
  walk_at "X"
  refine Brn.mk (fun e => ?_) fun e => ?_
  · have D1 := D.u_at hk q9b (hw.ne e (by decide))
    walk_at "X"
    intro c hc
    have n1 := nf qa hc
    have qa2 := pt (x := .list [.str [102,117,114,116,104,101,114],.str [115,101,99,116,105,111,110]]) qa n1
    have hcnd : aa ≠ c ∧ (ag.map V.str).length + [V.str [102,117,114,116,104,101,114],V.str [115,101,99,116,105,111,110]].length ≤ 1000000 := ⟨n1,by simp; omega⟩
    walk_at "X"
    exact h1 e _ _ _ (D1.u_push [[102,117,114,116,104,101,114],[115,101,99,116,105,111,110]] hc (by simp [asc]) (by simp; omega))
  · walk_at "X"
    exact h2 e _ _ _ D
end
end
section
set_option linter.unusedSectionVars false
section
variable {sp : Sp} (hC : Calls sp) {k : Kit} (hk : DOk k) {q : QS} {ag : List Tx} {back : Addr} {sec : Sec} {tt : Option Addr} {bh : Option Nat} {Q : SPost} {P : Rho → AH → Prop}
  (hP : ∀ ρ H,wpT sp ρ dueT H (fun H1 => wpSs sp dueB ρ H1 (whK Q P)) (fun H1 => Q .next ρ H1) → P ρ H)
include hC hk hP
theorem d_list (h1 : so q.ps.rs = [40] → so q.ps.rs.tail = [41] → Wp k P { q with ps := stepS q.ps } [[114,101,115,117,108,116],[41]] back sec tt bh) (h2 : so q.ps.rs = [40] → so q.ps.rs.tail ≠ [41] → Wp k P { q with ps := stepS q.ps } [[114,101,115,117,108,116],[41],[102,117,114,116,104,101,114],[115,101,99,116,105,111,110]] back sec tt bh)
    (h3 : so q.ps.rs ≠ [40] → Wp k P q [] back sec tt bh) : Wp k P q ([] ++ [[108,105,115,116]]) back sec tt bh := by
  intro aa ρ H D
  refine due_turn hP hk D fun ρ H D e1 e2 e3 e4 => ?_
  obtain ⟨i,q9,q9b,q9c⟩ := D.r9
  have q1 := D.r1; have q2 := D.r2; have q3 := D.r3; have q4 := D.r4; have q5 := D.r5; have q6 := D.r6; have q7 := D.r7; have q8 := D.r8; have q10 := D.r10; have q11 := D.r11; have q12 := D.r12; have qa := D.haa; have qm := D.hma; have qp := D.hpa; have qr := D.base _ _ hk.ra (by simp); have qn := D.base _ _ hk.mn (by simp)
  unfold dueR dueB; simp only [List.drop]
  have hw := hk.wf.drop i
  rw [q9b] at hw
  walk_at "X"
  refine Brn.mk (fun e => ?_) fun e => ?_
  · have hne := hw.ne e (by decide)
    have D1 := D.u_at hk q9b hne
    have a1 := row_at (drop_tail q9b) hne (by omega)
    have a1 : It (k.R.map rowV) ((i : Int) + 1) _ := a1
    walk_at "X"
    refine Brn.mk (fun e5 => ?_) fun e5 => ?_
    · walk_at "X"
      intro c hc
      walk_at "X"
      exact h1 e e5 _ _ _ (D1.u_newag [[114,101,115,117,108,116],[41]] hc (by simp [asc]) (by simp))
    · walk_at "X"
      intro c hc
      walk_at "X"
      exact h2 e e5 _ _ _ (D1.u_newag [[114,101,115,117,108,116],[41],[102,117,114,116,104,101,114],[115,101,99,116,105,111,110]] hc (by simp [asc]) (by simp))
  · walk_at "X"
    exact h3 e _ _ _ D
theorem d_section (hag : ag.length ≤ 40) (h : Wp k P { q with ps := varS q.ps } (ag ++ [[101,110,116,101,114,101,100],[102,111,114,109,97,108],[58],[110,97,109,101]]) back (some (decide (so q.ps.rs = [86,65,82]),[],false)) tt bh) : Wp k P q (ag ++ [[115,101,99,116,105,111,110]]) back sec tt bh := by
  intro aa ρ H D
  refine due_turn hP hk D fun ρ H D e1 e2 e3 e4 => ?_
  obtain ⟨i,q9,q9b,q9c⟩ := D.r9
  have q1 := D.r1; have q2 := D.r2; have q3 := D.r3; have q4 := D.r4; have q5 := D.r5; have q6 := D.r6; have q7 := D.r7; have q8 := D.r8; have q10 := D.r10; have q11 := D.r11; have q12 := D.r12; have qa := D.haa; have qm := D.hma; have qp := D.hpa; have qr := D.base _ _ hk.ra (by simp); have qn := D.base _ _ hk.mn (by simp)
  unfold dueR dueB; simp only [List.drop]
  have hw := hk.wf.drop i
  rw [q9b] at hw
  have D1 := D.u_var (v := .bool (decide (so q.ps.rs = [86,65,82])))
  walk_at "X"
  refine Brn.mk (fun e => ?_) fun e => ?_
  · have e := of_decide_eq_true e
    rw [varS,if_pos e] at h
    have D2 := D1.u_at hk q9b (hw.ne e (by decide))
    walk_at "X"
    intro c hc
    have D3 := D2.u_sec hc rfl
    have qa3 := pt (x := .list []) qa (nf qa hc)
    walk_at "X"
    intro c2 hc2
    have n1 := nf qa3 hc2
    have qa4 := pt (x := .list [.str [101,110,116,101,114,101,100],.str [102,111,114,109,97,108],.str [58],.str [110,97,109,101]]) qa3 n1
    have hcnd : aa ≠ c2 ∧ (ag.map V.str).length + [V.str [101,110,116,101,114,101,100],V.str [102,111,114,109,97,108],V.str [58],V.str [110,97,109,101]].length ≤ 1000000 := ⟨n1,by simp; omega⟩
    walk_at "X"
    exact h _ _ _ (D3.u_push [[101,110,116,101,114,101,100],[102,111,114,109,97,108],[58],[110,97,109,101]] hc2 (by simp [asc]) (by simp; omega))
  · have e : so q.ps.rs ≠ _ := fun z => e (decide_eq_true z)
    rw [varS,if_neg e] at h
    have D2 : DS k q ag back none tt bh aa (put (put ρ .n_variable (.bool (decide (so q.ps.rs = [86,65,82])))) .n_at (.int ((i : Int) + 0))) H := D1.rho fun n hn => by
      by_cases z : n = .n_at
      · subst z; rw [put_same,Int.add_zero]; exact q9.symm
      · exact put_ne z
    walk_at "X"
    intro c hc
    have D3 := D2.u_sec hc rfl
    have qa3 := pt (x := .list []) qa (nf qa hc)
    walk_at "X"
    intro c2 hc2
    have n1 := nf qa3 hc2
    have qa4 := pt (x := .list [.str [101,110,116,101,114,101,100],.str [102,111,114,109,97,108],.str [58],.str [110,97,109,101]]) qa3 n1
    have hcnd : aa ≠ c2 ∧ (ag.map V.str).length + [V.str [101,110,116,101,114,101,100],V.str [102,111,114,109,97,108],V.str [58],V.str [110,97,109,101]].length ≤ 1000000 := ⟨n1,by simp; omega⟩
    walk_at "X"
    exact h _ _ _ (D3.u_push [[101,110,116,101,114,101,100],[102,111,114,109,97,108],[58],[110,97,109,101]] hc2 (by simp [asc]) (by simp; omega))
theorem d_name {vr op : Bool} {ns : List (Tx × Nat)} (hag : ag.length ≤ 40) (h1 : so q.ps.rs ≠ [105,100,101,110,116] → Wp k P { q with ps := markS q.ps (spo q.ps.rs) [101,120,112,101,99,116,101,100,32,105,100,101,110,116,105,102,105,101,114] } ag back (some (vr,ns,op)) tt bh)
    (h2 : so q.ps.rs = [105,100,101,110,116] → so q.ps.rs.tail ≠ [44] → Wp k P { q with ps := stepS q.ps } ag back (some (vr,ns ++ [(sg q.ps.rs,spo q.ps.rs)],op)) tt bh)
    (h3 : so q.ps.rs = [105,100,101,110,116] → so q.ps.rs.tail = [44] → Wp k P { q with ps := stepS (stepS q.ps) } (ag ++ [[110,97,109,101]]) back (some (vr,ns ++ [(sg q.ps.rs,spo q.ps.rs)],op)) tt bh) : Wp k P q (ag ++ [[110,97,109,101]]) back (some (vr,ns,op)) tt bh := by
  intro aa ρ H D
  refine due_turn hP hk D fun ρ H D e1 e2 e3 e4 => ?_
  obtain ⟨i,q9,q9b,q9c⟩ := D.r9
  have q1 := D.r1; have q2 := D.r2; have q3 := D.r3; have q4 := D.r4; have q5 := D.r5; have q6 := D.r6; have q7 := D.r7; have q8 := D.r8; have q10 := D.r10; have q11 := D.r11; have q12 := D.r12; have qa := D.haa; have qm := D.hma; have qp := D.hpa; have qr := D.base _ _ hk.ra (by simp); have qn := D.base _ _ hk.mn (by simp)
  unfold dueR dueB; simp only [List.drop]
  have hw := hk.wf.drop i
  rw [q9b] at hw
  walk_at "X"
  refine Brn.mk (fun e => ?_) fun e => ?_
  · have hne := hw.ne e (by decide)
    obtain ⟨s1,s2,nm,s3,s4,s5,s6,s7,s8,s9⟩ := id D.sc
    have D1 := D.u_name hk q9b hne (x := (sg q.ps.rs,spo q.ps.rs)) s3 ⟨hw.idv e,hw.spot⟩
    have a1 := row_at (drop_tail q9b) hne (by omega)
    have a1 : It (k.R.map rowV) ((i : Int) + 1) _ := a1
    have qa1 := D1.haa
    have qr1 := D1.base _ _ hk.ra (by simp)
    have hnl : (ns.map nmV).length < 1000000 := by have := D.pl; simp only [nlen] at this; simp; omega
    have hal : (ag.map V.str).length < 1000000 := by simp; omega
    have z2 := h2 e
    have z3 := h3 e
    simp only [nmV] at D1 qa1 qr1
    walk_at "X"
    refine Brn.mk (fun e5 => ?_) fun e5 => ?_
    · have hw1 := hw.tail
      have D2 := D1.u_at hk (i := i + 1) (drop_tail q9b) (hw1.ne e5 (by decide))
      walk_at "X"
      exact z3 e5 _ _ _ (D2.u_app (by simp [asc]) (by omega))
    · walk_at "X"
      exact z2 e5 _ _ _ D1
  · have hok := D.ok
    walk_at "X"
    refine c_lmark hC qm D.ok fun H' g1 g2 => ?_
    walk_at "X"
    exact h1 e _ _ _ (D.mkd hk g1 g2 (D.ok.add hw.spot _))
theorem d_formal {vr op : Bool} {ns : List (Tx × Nat)} (hag : ag.length ≤ 40) (h1 : so q.ps.rs = [65,82,82,65,89] → Wp k P { q with ps := stepS q.ps } (ag ++ [[110,97,109,101,100],[110,111,95,97,114,114,97,121],[79,70]]) back (some (vr,ns,true)) tt bh)
    (h2 : so q.ps.rs ≠ [65,82,82,65,89] → Wp k P q (ag ++ [[110,97,109,101,100]]) back (some (vr,ns,op)) tt bh) : Wp k P q (ag ++ [[102,111,114,109,97,108]]) back (some (vr,ns,op)) tt bh := by
  intro aa ρ H D
  refine due_turn hP hk D fun ρ H D e1 e2 e3 e4 => ?_
  obtain ⟨i,q9,q9b,q9c⟩ := D.r9
  have q1 := D.r1; have q2 := D.r2; have q3 := D.r3; have q4 := D.r4; have q5 := D.r5; have q6 := D.r6; have q7 := D.r7; have q8 := D.r8; have q10 := D.r10; have q11 := D.r11; have q12 := D.r12; have qa := D.haa; have qm := D.hma; have qp := D.hpa; have qr := D.base _ _ hk.ra (by simp); have qn := D.base _ _ hk.mn (by simp)
  unfold dueR dueB; simp only [List.drop]
  have hw := hk.wf.drop i
  rw [q9b] at hw
  have D1 := D.u_app (d := [110,97,109,101,100]) (by simp [asc]) (by omega)
  have hal : (ag.map V.str).length < 1000000 := by simp; omega
  have qa1 := D1.haa
  walk_at "X"
  refine Brn.mk (fun e => ?_) fun e => ?_
  · have D2 := (D1.u_at hk q9b (hw.ne e (by decide))).u_open (o2 := true)
    walk_at "X"
    intro c hc
    have n1 := nf qa1 hc
    have hcnd : aa ≠ c ∧ (List.map V.str (ag ++ [[110,97,109,101,100]])).length + [V.str [110,111,95,97,114,114,97,121],V.str [79,70]].length ≤ 1000000 := ⟨n1,by simp; omega⟩
    walk_at "X"
    have D3 := D2.u_push [[110,111,95,97,114,114,97,121],[79,70]] hc (by simp [asc]) (by simp; omega)
    rw [List.append_assoc] at D3
    exact h1 e _ _ _ D3
  · walk_at "X"
    exact h2 e _ _ _ D1
theorem d_noarr (hag : ag.length ≤ 40) (h1 : so q.ps.rs = [65,82,82,65,89] → Wp k P { q with ps := markS q.ps (spo q.ps.rs) [111,112,101,110,95,97,114,114,97,121] } (ag ++ [[112,97,115,115,101,100]]) back sec tt bh) (h2 : so q.ps.rs ≠ [65,82,82,65,89] → Wp k P q ag back sec tt bh) : Wp k P q (ag ++ [[110,111,95,97,114,114,97,121]]) back sec tt bh := by
  intro aa ρ H D
  refine due_turn hP hk D fun ρ H D e1 e2 e3 e4 => ?_
  obtain ⟨i,q9,q9b,q9c⟩ := D.r9
  have q1 := D.r1; have q2 := D.r2; have q3 := D.r3; have q4 := D.r4; have q5 := D.r5; have q6 := D.r6; have q7 := D.r7; have q8 := D.r8; have q10 := D.r10; have q11 := D.r11; have q12 := D.r12; have qa := D.haa; have qm := D.hma; have qp := D.hpa; have qr := D.base _ _ hk.ra (by simp); have qn := D.base _ _ hk.mn (by simp)
  unfold dueR dueB; simp only [List.drop]
  have hw := hk.wf.drop i
  rw [q9b] at hw
  have hal : (ag.map V.str).length < 1000000 := by simp; omega
  walk_at "X"
  refine Brn.mk (fun e => ?_) fun e => ?_
  · walk_at "X"
    refine c_lmark hC qm D.ok fun H' g1 g2 => ?_
    have D1 := D.mkd hk g1 g2 (D.ok.add hw.spot _)
    have qa1 := D1.haa
    walk_at "X"
    exact h1 e _ _ _ (D1.u_app (by simp [asc]) (by omega))
  · walk_at "X"
    exact h2 e _ _ _ D
theorem d_passed (hag : ag.length ≤ 40) (h1 : so q.ps.rs = [65,82,82,65,89] → Wp k P { q with ps := stepS q.ps } (ag ++ [[112,97,115,115,101,100],[79,70]]) back sec tt bh) (h2 : so q.ps.rs ≠ [65,82,82,65,89] → Wp k P q ag back sec tt bh) : Wp k P q (ag ++ [[112,97,115,115,101,100]]) back sec tt bh := by
  intro aa ρ H D
  refine due_turn hP hk D fun ρ H D e1 e2 e3 e4 => ?_
  obtain ⟨i,q9,q9b,q9c⟩ := D.r9
  have q1 := D.r1; have q2 := D.r2; have q3 := D.r3; have q4 := D.r4; have q5 := D.r5; have q6 := D.r6; have q7 := D.r7; have q8 := D.r8; have q10 := D.r10; have q11 := D.r11; have q12 := D.r12; have qa := D.haa; have qm := D.hma; have qp := D.hpa; have qr := D.base _ _ hk.ra (by simp); have qn := D.base _ _ hk.mn (by simp)
  unfold dueR dueB; simp only [List.drop]
  have hw := hk.wf.drop i
  rw [q9b] at hw
  walk_at "X"
  refine Brn.mk (fun e => ?_) fun e => ?_
  · have D1 := D.u_at hk q9b (hw.ne e (by decide))
    walk_at "X"
    intro c hc
    have n1 := nf qa hc
    have qa2 := pt (x := .list [.str [112,97,115,115,101,100],.str [79,70]]) qa n1
    have hcnd : aa ≠ c ∧ (ag.map V.str).length + [V.str [112,97,115,115,101,100],V.str [79,70]].length ≤ 1000000 := ⟨n1,by simp; omega⟩
    walk_at "X"
    exact h1 e _ _ _ (D1.u_push [[112,97,115,115,101,100],[79,70]] hc (by simp [asc]) (by simp; omega))
  · walk_at "X"
    exact h2 e _ _ _ D
theorem d_result (hag : ag.length ≤ 40) (h1 : so q.ps.rs = [58] → Wp k P { q with ps := stepS q.ps } (ag ++ [[115,105,110,103,108,101],[110,97,109,101,100]]) back sec tt (some (spo q.ps.rs.tail))) (h2 : so q.ps.rs ≠ [58] → Wp k P q ag back sec tt bh) : Wp k P q (ag ++ [[114,101,115,117,108,116]]) back sec tt bh := by
  intro aa ρ H D
  refine due_turn hP hk D fun ρ H D e1 e2 e3 e4 => ?_
  obtain ⟨i,q9,q9b,q9c⟩ := D.r9
  have q1 := D.r1; have q2 := D.r2; have q3 := D.r3; have q4 := D.r4; have q5 := D.r5; have q6 := D.r6; have q7 := D.r7; have q8 := D.r8; have q10 := D.r10; have q11 := D.r11; have q12 := D.r12; have qa := D.haa; have qm := D.hma; have qp := D.hpa; have qr := D.base _ _ hk.ra (by simp); have qn := D.base _ _ hk.mn (by simp)
  unfold dueR dueB; simp only [List.drop]
  have hw := hk.wf.drop i
  rw [q9b] at hw
  walk_at "X"
  refine Brn.mk (fun e => ?_) fun e => ?_
  · have hne := hw.ne e (by decide)
    have D1 := (D.u_at hk q9b hne).u_bh (b := spo q.ps.rs.tail) hw.tail.spot
    have a1 := row_at (drop_tail q9b) hne (by omega)
    have a1 : It (k.R.map rowV) ((i : Int) + 1) _ := a1
    walk_at "X"
    intro c hc
    have n1 := nf qa hc
    have qa2 := pt (x := .list [.str [115,105,110,103,108,101],.str [110,97,109,101,100]]) qa n1
    have hcnd : aa ≠ c ∧ (ag.map V.str).length + [V.str [115,105,110,103,108,101],V.str [110,97,109,101,100]].length ≤ 1000000 := ⟨n1,by simp; omega⟩
    walk_at "X"
    exact h1 e _ _ _ (D1.u_push [[115,105,110,103,108,101],[110,97,109,101,100]] hc (by simp [asc]) (by simp; omega))
  · walk_at "X"
    exact h2 e _ _ _ D
theorem d_sign {d : Tx} (hd : d ∈ ([[41],[58],[79,70]] : List Tx)) (h : Wp k P { q with ps := expS q.ps d } ag back sec tt bh) : Wp k P q (ag ++ [d]) back sec tt bh := by
  intro aa ρ H D
  refine due_turn hP hk D fun ρ H D e1 e2 e3 e4 => ?_
  obtain ⟨i,q9,q9b,q9c⟩ := D.r9
  have q1 := D.r1; have q2 := D.r2; have q3 := D.r3; have q4 := D.r4; have q5 := D.r5; have q6 := D.r6; have q7 := D.r7; have q8 := D.r8; have q10 := D.r10; have q11 := D.r11; have q12 := D.r12; have qa := D.haa; have qm := D.hma; have qp := D.hpa; have qr := D.base _ _ hk.ra (by simp); have qn := D.base _ _ hk.mn (by simp)
  unfold dueR dueB; simp only [List.drop]
  have hw := hk.wf.drop i
  rw [q9b] at hw
  have hn : d ≠ [101,111,102] ∧ d ≠ [108,105,115,116] ∧ d ≠ [102,117,114,116,104,101,114] ∧ d ≠ [115,101,99,116,105,111,110] ∧ d ≠ [110,97,109,101] ∧ d ≠ [102,111,114,109,97,108] ∧ d ≠ [110,111,95,97,114,114,97,121] ∧ d ≠ [112,97,115,115,101,100] ∧ d ≠ [110,97,109,101,100] ∧ d ≠ [101,110,116,101,114,101,100] ∧ d ≠ [114,101,115,117,108,116] ∧ d ≠ [115,105,110,103,108,101] ∧ d.length ≤ 10 := by
    simp only [List.mem_cons,List.not_mem_nil,or_false] at hd
    rcases hd with rfl | rfl | rfl <;> decide
  obtain ⟨n0,n1,n2,n3,n4,n5,n6,n7,n8,n9,n10,n11,n12⟩ := hn
  have hl : ([101,120,112,101,99,116,101,100,32] : Tx).length + d.length ≤ 10000000 := by simp; omega
  walk_at "X"
  refine Brn.mk (fun e => ?_) fun e => ?_
  · rw [expS,if_pos e] at h
    have D1 := D.u_at hk q9b (hw.ne e n0)
    walk_at "X"
    exact h _ _ _ D1
  · rw [expS,if_neg e] at h
    walk_at "X"
    refine c_lmark hC qm D.ok fun H' g1 g2 => ?_
    walk_at "X"
    exact h _ _ _ (D.mkd hk g1 g2 (D.ok.add hw.spot _))
end
end
section
theorem typeP_ok {k : Kit} (hk : DOk k) {s : PS} (hw : Wf s.rs) : TyOk k.T k.H0 (typeP k.T s).1 := by
  unfold typeP
  split
  · next e =>
    have h1 := hk.u _ (hw.idv e)
    split
    · next a ha => exact h1 _ ha
    · exact hk.ti
    · split
      · split
        · next e2 =>
          have h2 := hk.u2 _ (hw.tail.tail.idv e2)
          split
          · next a ha => exact h2 _ ha
          · exact hk.ti
          · exact hk.ti
        · exact hk.ti
      · exact hk.ti
  · exact hk.ti
theorem TyOk.x {T : Tab} {H H' : AH} (k : KpX [] H H') {a : Addr} (h : TyOk T H a) : TyOk T H' a := by
  obtain ⟨m,l,h1,h2⟩ := h; exact ⟨m,l,k _ _ h1 (by simp),h2⟩
theorem typeP_ar (T : Tab) (s : PS) : (typeP T s).2.ar = s.ar := by
  unfold typeP
  repeat' split
  all_goals rfl
section
variable {k : Kit} {q : QS} {ag : List Tx} {back : Addr} {sec : Sec} {tt : Option Addr} {bh : Option Nat} {aa : Addr} {ρ : Rho} {H : AH}
theorem DS.u_rs (D : DS k q ag back sec tt bh aa ρ H) (hk : DOk k) {i' : Nat} {rs : List Row} (h : k.R.drop i' = rs) (ne : rs ≠ []) (hl : rs.length ≤ q.ps.rs.length) {w : V} : DS k { q with ps := { q.ps with rs := rs } } ag back sec tt bh aa (putAll ρ [.n_at,.n_found] [.int (i' : Nat),w]) H := by
  obtain ⟨r1,r2,r3,r4,r5,r6,r7,r8,r9,r10,r11,r12,ne0,ok,hma,hpa,haa,faa,na1,na2,ac,base,sc,t1,b1,pl,agl⟩ := D
  have hi : i' < k.R.length := Nat.lt_of_not_le fun z => ne (by rw [← h,List.drop_eq_nil_of_le z])
  have hln := hk.ln
  refine ⟨r1,r2,r3,r4,r5,r6,r7,r8,⟨i',rfl,h,by omega⟩,r10,r11,r12,ne,ok,hma,hpa,haa,faa,na1,na2,ac,base,sc.rho fun n hn => ?_,t1,b1,by dsimp only; omega,agl⟩
  simp only [List.mem_cons,List.not_mem_nil,or_false] at hn; rcases hn with rfl | rfl | rfl <;> rfl
theorem DS.u_par (D : DS k q ag back sec tt bh aa ρ H) (hk : DOk k) {p : Par} {w : Nat} {ww : Int} (hw : ww = (q.words : Int) + w) (hs : sec = none) (hl : q.pars.length + 1 + q.ps.rs.length ≤ 5000) :
    DS k { q with pars := q.pars ++ [p],words := q.words + w } ag back sec tt bh aa (put ρ .n_words (.int ww)) (put H k.pa (.list (q.pars.map parV ++ [parV p]))) := by
  obtain ⟨r1,r2,r3,r4,r5,r6,r7,r8,r9,r10,r11,r12,ne0,ok,hma,hpa,haa,faa,na1,na2,ac,base,sc,t1,b1,pl,agl⟩ := D
  subst hs hw
  refine ⟨r1,r2,r3,r4,r5,r6,r7,r8,r9,rfl,r11,r12,ne0,ok,pt hma hk.ne,?_,pt haa na2,faa,na1,na2,ac,base.putf hk.pa,trivial,t1,b1,?_,agl⟩
  · rw [put_same]; simp
  · simp only [nlen,List.length_append,List.length_cons,List.length_nil]; omega
theorem DS.u_arr (D : DS k q ag back sec tt bh aa ρ H) {n : Nat} {a : Int} (h : a = (n : Int)) : DS k { q with ps := { q.ps with ar := n } } ag back sec tt bh aa (put ρ .n_arrays (.int a)) H := by
  obtain ⟨r1,r2,r3,r4,r5,r6,r7,r8,r9,r10,r11,r12,ne0,ok,hma,hpa,haa,faa,na1,na2,ac,base,sc,t1,b1,pl,agl⟩ := D
  subst h
  refine ⟨r1,r2,r3,r4,r5,r6,r7,r8,r9,r10,rfl,r12,ne0,ok,hma,hpa,haa,faa,na1,na2,ac,base,sc.rho fun n hn => ?_,t1,b1,pl,agl⟩
  simp only [List.mem_cons,List.not_mem_nil,or_false] at hn; rcases hn with rfl | rfl | rfl <;> rfl
end
section
variable {sp : Sp} (hC : Calls sp) {k : Kit} (hk : DOk k) {q : QS} {ag : List Tx} {back : Addr} {sec : Sec} {tt : Option Addr} {bh : Option Nat} {Q : SPost} {P : Rho → AH → Prop}
  (hP : ∀ ρ H,wpT sp ρ dueT H (fun H1 => wpSs sp dueB ρ H1 (whK Q P)) (fun H1 => Q .next ρ H1) → P ρ H)
include hC hk hP
theorem d_named (h : Wp k P { q with ps := (typeP k.T q.ps).2 } ag back sec (some (typeP k.T q.ps).1) bh) : Wp k P q (ag ++ [[110,97,109,101,100]]) back sec tt bh := by
  intro aa ρ H D
  refine due_turn hP hk D fun ρ H D e1 e2 e3 e4 => ?_
  obtain ⟨i,q9,q9b,q9c⟩ := D.r9
  have q1 := D.r1; have q2 := D.r2; have q3 := D.r3; have q4 := D.r4; have q5 := D.r5; have q6 := D.r6; have q7 := D.r7; have q8 := D.r8; have q10 := D.r10; have q11 := D.r11; have q12 := D.r12; have qa := D.haa; have qm := D.hma; have qp := D.hpa; have qr := D.base _ _ hk.ra (by simp); have qn := D.base _ _ hk.mn (by simp)
  unfold dueR dueB; simp only [List.drop]
  have hw := hk.wf.drop i
  rw [q9b] at hw
  have hra : k.ra ≠ k.ma := nf hk.ra hk.ma
  walk_at "X"
  refine c_lmeaning hC (s := q.ps) hk.wf hk.me qr qm qn q9b D.ne (by omega) D.ok hra fun H' i' v g1 g2 g3 g4 g5 g6 g7 => ?_
  have D1 := (D.mkd hk g5 g6 g4).u_rs hk g1 g2 (typeP_len k.T q.ps) (w := v)
  have hty := typeP_ok hk hw
  have D2 := D1.u_t hty
  have e5 : ({ q with ps := { rs := (typeP k.T q.ps).2.rs,ms := (typeP k.T q.ps).2.ms,ar := q.ps.ar } } : QS) = { q with ps := (typeP k.T q.ps).2 } := by
    rw [← typeP_ar k.T q.ps]
  rw [e5] at D2
  have q31 := D1.r3
  rcases g7 with g7 | ⟨g7,g8⟩
  · subst g7
    walk_at "X"
    exact h _ _ _ D2
  · subst g7
    rw [g8] at D2 h
    walk_at "X"
    exact h _ _ _ D2
theorem d_single {t : Addr} {b : Nat} (h1 : isSt (k.T.form t) = true → Wp k P { q with ps := markS q.ps b [114,101,115,117,108,116,95,116,121,112,101] } ag k.T.ti sec (some t) (some b)) (h2 : isSt (k.T.form t) = false → Wp k P q ag t sec (some t) (some b)) :
    Wp k P q (ag ++ [[115,105,110,103,108,101]]) back sec (some t) (some b) := by
  intro aa ρ H D
  refine due_turn hP hk D fun ρ H D e1 e2 e3 e4 => ?_
  obtain ⟨i,q9,q9b,q9c⟩ := D.r9
  have q1 := D.r1; have q2 := D.r2; have q3 := D.r3; have q4 := D.r4; have q5 := D.r5; have q6 := D.r6; have q7 := D.r7; have q8 := D.r8; have q10 := D.r10; have q11 := D.r11; have q12 := D.r12; have qa := D.haa; have qm := D.hma; have qp := D.hpa; have qr := D.base _ _ hk.ra (by simp); have qn := D.base _ _ hk.mn (by simp)
  unfold dueR dueB; simp only [List.drop]
  obtain ⟨t1,t2⟩ := D.tt t rfl
  obtain ⟨b1,b2⟩ := D.bh b rfl
  obtain ⟨mt,l,m1,m2,-⟩ := t2.x D.base
  have D1 := D.u_back (b := t)
  walk_at "X"
  intro c hc
  have D2 := D1.keepF (o := .list [.str [97,114,114,97,121],.str [114,101,99,111,114,100]]) hc
  have hc2 : put H c (.list [.str [97,114,114,97,121],.str [114,101,99,111,114,100]]) c = some (.list [.str [97,114,114,97,121],.str [114,101,99,111,114,100]]) := put_same
  walk_at "X"
  generalize put H c (.list [.str [97,114,114,97,121],.str [114,101,99,111,114,100]]) = H1 at *
  have hm2 := D2.hma
  refine Brn.mk (fun e => ?_) fun e => ?_
  · have e : isSt (k.T.form t) = true := by simpa [isSt] using e
    walk_at "X"
    refine c_lmark hC hm2 D.ok fun H' g1 g2 => ?_
    have D3 := (D2.mkd hk g1 g2 (D.ok.add b2 _)).u_back (b := k.T.ti)
    walk_at "X"
    exact h1 e _ _ _ D3
  · have e : isSt (k.T.form t) = false := by
      simp only [List.mem_cons,List.not_mem_nil,or_false,not_or] at e
      simp [isSt,e]
    walk_at "X"
    exact h2 e _ _ _ D2
end
def entB : List S := [.ifs (E.or [(E.cmp .isin (E.loc .n_name) (E.compI (E.loc .n_pars) .n_one 0)),(E.and [(E.cmp .gt (E.loc .n_many) (E.int 0)),(E.cmp .eq (E.loc .n_name) (E.str [97,48]))])]) [.expr (E.call .f_law_mark [(E.loc .n_marks),(E.loc .n_where),(E.str [100,101,102,105,110,101,100,95,116,119,105,99,101])]),.cont] [],.expr (E.append (E.loc .n_pars) (E.tup [(E.loc .n_name),(E.loc .n_where),(E.ite (E.or [(E.loc .n_closed),(E.loc .n_variable)]) (E.str [112,97,114]) (E.str [118,97,114])),(E.loc .n_closed),(E.ite (E.loc .n_opened) (E.loc .n_arrays) (E.int 0)),(E.loc .n_t),(E.loc .n_owner)])),.aug .n_words (E.ite (E.or [(E.loc .n_opened),(E.cmp .eq (E.attr (E.loc .n_t) .n_form) (E.str [114,101,99,111,114,100]))]) (E.int 2) (E.int 1)),.ifs (E.cmp .gt (E.loc .n_words) (E.int 60)) [.expr (E.call .f_law_mark [(E.loc .n_marks),(E.loc .n_where),(E.str [116,111,111,95,108,97,114,103,101])])] []]
theorem listM_parn : ∀ (ps : List Par),listM (tupItem 0) (ps.map parV) = some (ps.map fun p => .str p.name)
  | [] => rfl
  | q :: r => by
    have := listM_parn r
    simp only [List.map_cons,listM,tupItem,parV,this]; rfl
section
variable {sp : Sp} (hC : Calls sp) {k : Kit} (hk : DOk k) {ag : List Tx} {back : Addr} {bh : Option Nat}
include hC hk
theorem l_enter1 {q : QS} {tt : Option Addr} {aa : Addr} {ρ : Rho} {H : AH} {K : SPost} {h : Hd} {vr op cl : Bool} {t : Addr} {x : Tx × Nat} (D : DS k q ag back none tt bh aa ρ H) (htt : tt = some t)
    (hkd : h.kind = if cl || vr then [112,97,114] else [118,97,114]) (hcl : h.closed = cl) (hwh : h.which = if op then q.ps.ar else 0) (ht : h.t = t) (hw : h.w = if op || decide (k.T.form t = [114,101,99,111,114,100]) then 2 else 1)
    (r1 : ρ .n_name = some (.str x.1)) (r2 : ρ .n_where = some (.int x.2)) (r3 : ρ .n_closed = some (.bool cl)) (r4 : ρ .n_variable = some (.bool vr)) (r5 : ρ .n_opened = some (.bool op)) (r6 : ρ .n_owner = some (.str h.owner))
    (hx : x.2 ≤ 700000) (hl : q.pars.length + 1 + q.ps.rs.length ≤ 5000)
    (kk : ∀ ρ' H',(∀ n,n ≠ .n_words → ρ' n = ρ n) → DS k (enterP (decide (0 < k.many)) h [x] q) ag back none tt bh aa ρ' H' → KpX [k.ma,k.pa] H H' → K .next ρ' H' ∧ K .cont ρ' H') : wpSs sp entB ρ H K := by
  subst htt ht
  obtain ⟨t1,t2⟩ := D.tt h.t rfl
  have q1 := D.r1; have q2 := D.r2; have q3 := D.r3; have q4 := D.r4; have q5 := D.r5; have q6 := D.r6; have q7 := D.r7; have q8 := D.r8; have q10 := D.r10; have q11 := D.r11; have q12 := D.r12; have qa := D.haa; have qm := D.hma; have qp := D.hpa; have qr := D.base _ _ hk.ra (by simp); have qn := D.base _ _ hk.mn (by simp)
  have hpl : (q.pars.map parV).length ≤ 1000000 := by simp; omega
  have hM := listM_parn q.pars
  unfold entB
  walk_at "X"
  intro c hc
  have D1 := D.keepF (o := .list (q.pars.map fun p => .str p.name)) hc
  have hc2 : put H c (.list (q.pars.map fun p => V.str p.name)) c = some (.list (q.pars.map fun p => V.str p.name)) := put_same
  have hk1 : KpX [k.ma,k.pa] H (put H c (.list (q.pars.map fun p => V.str p.name))) := KpX.refl.putf hc
  have hM2 : listM strOf (q.pars.map fun p => V.str p.name) = some (q.pars.map Par.name) := by
    have := listM_str (q.pars.map Par.name); rwa [List.map_map] at this
  generalize put H c (.list (q.pars.map fun p => V.str p.name)) = H1 at *
  have ek : enterP (decide (0 < k.many)) h [x] q = if tkn (decide (0 < k.many)) q.pars x.1 then { q with ps := markS q.ps x.2 [100,101,102,105,110,101,100,95,116,119,105,99,101] }
      else { ps := if 60 < q.words + h.w then markS q.ps x.2 [116,111,111,95,108,97,114,103,101] else q.ps,pars := q.pars ++ [⟨x.1,x.2,h.kind,h.closed,h.which,h.t,h.owner⟩],words := q.words + h.w } := rfl
  rw [ek] at kk
  obtain ⟨mt,l,m1,m2,-⟩ := t2.x D1.base
  have twice : tkn (decide (0 < k.many)) q.pars x.1 = true → wpSs sp [.expr (E.call .f_law_mark [(E.loc .n_marks),(E.loc .n_where),(E.str [100,101,102,105,110,101,100,95,116,119,105,99,101])]),.cont] ρ H1 (seqK sp (entB.drop 1) K) := by
    intro e
    rw [if_pos e] at kk
    have qm1 := D1.hma
    walk_at "X"
    refine c_lmark hC qm1 D1.ok fun H' g1 g2 => ?_
    walk_at "X"
    exact (kk ρ H' (fun _ _ => rfl) (D1.mkd hk g1 g2 (D1.ok.add hx _)) (hk1.trans (g2.mono (by simp)))).2
  have once : tkn (decide (0 < k.many)) q.pars x.1 = false → wpSs sp [] ρ H1 (seqK sp (entB.drop 1) K) := by
    intro e
    rw [if_neg (by rw [e]; decide)] at kk
    have qp1 := D1.hpa
    have q111 := D1.r11
    have q101 := D1.r10
    have hpl2 : (q.pars.map parV).length < 1000000 := by simp; omega
    have npa : ∀ {o : O} {m},H1 h.t = some (.inst .c_Type m) → put H1 k.pa o h.t = some (.inst .c_Type m) := fun e => pt e (nn e qp1 nofun)
    have fin : ∀ (w : Nat) (ww : Int),w = h.w → ww = (q.words : Int) + w → wpSs sp [.ifs (E.cmp .gt (E.loc .n_words) (E.int 60)) [.expr (E.call .f_law_mark [(E.loc .n_marks),(E.loc .n_where),(E.str [116,111,111,95,108,97,114,103,101])])] []]
        (put ρ .n_words (.int ww)) (put H1 k.pa (.list (q.pars.map parV ++ [parV ⟨x.1,x.2,h.kind,h.closed,h.which,h.t,h.owner⟩]))) K := by
      intro w ww ew eww
      subst ew eww
      have D2 := D1.u_par hk (p := ⟨x.1,x.2,h.kind,h.closed,h.which,h.t,h.owner⟩) (w := h.w) rfl rfl hl
      have hk2 : KpX [k.ma,k.pa] H (put H1 k.pa (.list (q.pars.map parV ++ [parV ⟨x.1,x.2,h.kind,h.closed,h.which,h.t,h.owner⟩]))) := hk1.putm (by simp)
      have qm2 := D2.hma
      generalize put H1 k.pa (.list (q.pars.map parV ++ [parV ⟨x.1,x.2,h.kind,h.closed,h.which,h.t,h.owner⟩])) = H2 at *
      walk_at "X"
      refine Brn.mk (fun e => ?_) fun e => ?_
      · have e : 60 < q.words + h.w := by omega
        rw [if_pos e] at kk
        walk_at "X"
        refine c_lmark hC qm2 D2.ok fun H' g1 g2 => ?_
        walk_at "X"
        exact (kk _ _ (fun n hn => put_ne hn) (D2.mkd hk g1 g2 (D2.ok.add hx _)) (hk2.trans (g2.mono (by simp)))).1
      · have e : ¬ 60 < q.words + h.w := by omega
        rw [if_neg e] at kk
        walk_at "X"
        exact (kk _ _ (fun n hn => put_ne hn) D2 hk2).1
    unfold entB
    simp only [List.drop]
    cases op with
    | true =>
      have z := fin 2 ((q.words : Int) + 2) (by rw [hw]; rfl) rfl
      simp only [parV,hkd,hcl,hwh,if_true] at z
      simp (disch := walk_at "Y") only [↓wpSs_nil,↓wpSs_cons,↓sk_next,↓sk_ret,↓sk_cont,↓br_t,↓br_f,↓br_T,↓br_F,↓br_n,↓cn_t,↓e_loc,↓e_gint,↓e_int,↓e_str,↓e_bool,↓e_none,↓e_pow,↓e_neg,↓e_attr,↓e_bin,↓e_not,↓e_and,↓e_or,↓e_cmp,↓e_list,↓e_tup,↓e_d0td,↓e_d0sd,↓e_d0id,↓e_idx,↓e_slice,↓e_call,↓e_met,↓e_new,↓e_bi,↓e_app,↓e_pop,↓e_pop0,↓e_dgt,↓e_sfind,↓e_compA,↓e_compI,↓es_n,↓es_c,↓o_n,↓o_s,↓io_i,↓nv_b,↓an_c,↓or_c,↓av_1,↓av_2,↓ov_1,↓ov_2,↓mt_r,↓tv_b,↓lv_r,↓dv_r,↓sv_r,↓sv_t,↓t_not,↓t_and,↓t_or,↓t_cmp,↓t_loc,↓t_bool,↓t_call,↓t_met,↓al_n,↓al_c,↓ay_n,↓ay_c,↓all_T,↓all_F,↓all_P,↓p_asg,↓p_unpk,↓p_sattr,↓p_sidx,↓p_aug,↓p_augattr,↓p_ifs,↓p_whl,↓p_forS,↓p_forT,↓p_forR,↓p_forV,↓p_ret,↓p_retn,↓p_cont,↓p_expr,↓rd_r,↓sa_r,↓bi_ii,↓xi_ss,↓xi_tt,↓xi_rr,↓bi_sub,↓xi_mul,↓xi_mulr,↓xi_div,↓xi_mod,↓ag_ii,↓xg_ss,↓xg_rr,↓xx_t,↓xx_l,↓xx_d,↓xl_s,↓xl_l,↓xl_x,↓bf_abs,↓bf_int,↓xf_chr,↓xf_str,↓xf_lens,↓xf_lenl,↓bf_ord,↓bf_max,↓xf_list,↓xa_l,↓xp_l,↓xp0_l,↓xd_l,↓xs_l,↓xs_i,↓xs_s,↓xs_t,↓cm_eq,↓cm_ne,↓cm_lt,↓cm_le,↓cm_les,↓cm_gt,↓cm_ge,↓cm_in,↓cm_notin,↓xc_nn,↓xc_nr,↓eq_i,↓eq_s,↓eq_b,↓xe_t,↓xe_l,↓xm_ls,↓xm_li,↓xm_sd,↓xm_id,↓xm_t,↓me_s,↓xcp_l,↓fi_l,↓fi_t,↓ft_l,↓fv_l,↓fr_i,↓fk_n,↓fk_c,↓fk_r,↓wk_n,↓wk_c,↓wk_r,↓body_eq,↓ret_r,↓ret_n,sset,reduceCtorEq,if_true,if_false,↓e_iteor,↓e_itel]
      have m1' := npa (o := .list (q.pars.map parV ++ [.tup [.str x.1,.int x.2,.str (if (cl || vr) = true then [112,97,114] else [118,97,114]),.bool cl,.int q.ps.ar,.ref h.t,.str h.owner]])) m1
      walk_at "X"
      walk_at "z"
      exact z
    | false =>
      simp (disch := walk_at "Y") only [↓wpSs_nil,↓wpSs_cons,↓sk_next,↓sk_ret,↓sk_cont,↓br_t,↓br_f,↓br_T,↓br_F,↓br_n,↓cn_t,↓e_loc,↓e_gint,↓e_int,↓e_str,↓e_bool,↓e_none,↓e_pow,↓e_neg,↓e_attr,↓e_bin,↓e_not,↓e_and,↓e_or,↓e_cmp,↓e_list,↓e_tup,↓e_d0td,↓e_d0sd,↓e_d0id,↓e_idx,↓e_slice,↓e_call,↓e_met,↓e_new,↓e_bi,↓e_app,↓e_pop,↓e_pop0,↓e_dgt,↓e_sfind,↓e_compA,↓e_compI,↓es_n,↓es_c,↓o_n,↓o_s,↓io_i,↓nv_b,↓an_c,↓or_c,↓av_1,↓av_2,↓ov_1,↓ov_2,↓mt_r,↓tv_b,↓lv_r,↓dv_r,↓sv_r,↓sv_t,↓t_not,↓t_and,↓t_or,↓t_cmp,↓t_loc,↓t_bool,↓t_call,↓t_met,↓al_n,↓al_c,↓ay_n,↓ay_c,↓all_T,↓all_F,↓all_P,↓p_asg,↓p_unpk,↓p_sattr,↓p_sidx,↓p_aug,↓p_augattr,↓p_ifs,↓p_whl,↓p_forS,↓p_forT,↓p_forR,↓p_forV,↓p_ret,↓p_retn,↓p_cont,↓p_expr,↓rd_r,↓sa_r,↓bi_ii,↓xi_ss,↓xi_tt,↓xi_rr,↓bi_sub,↓xi_mul,↓xi_mulr,↓xi_div,↓xi_mod,↓ag_ii,↓xg_ss,↓xg_rr,↓xx_t,↓xx_l,↓xx_d,↓xl_s,↓xl_l,↓xl_x,↓bf_abs,↓bf_int,↓xf_chr,↓xf_str,↓xf_lens,↓xf_lenl,↓bf_ord,↓bf_max,↓xf_list,↓xa_l,↓xp_l,↓xp0_l,↓xd_l,↓xs_l,↓xs_i,↓xs_s,↓xs_t,↓cm_eq,↓cm_ne,↓cm_lt,↓cm_le,↓cm_les,↓cm_gt,↓cm_ge,↓cm_in,↓cm_notin,↓xc_nn,↓xc_nr,↓eq_i,↓eq_s,↓eq_b,↓xe_t,↓xe_l,↓xm_ls,↓xm_li,↓xm_sd,↓xm_id,↓xm_t,↓me_s,↓xcp_l,↓fi_l,↓fi_t,↓ft_l,↓fv_l,↓fr_i,↓fk_n,↓fk_c,↓fk_r,↓wk_n,↓wk_c,↓wk_r,↓body_eq,↓ret_r,↓ret_n,sset,reduceCtorEq,if_true,if_false,↓e_iteor,↓e_itel]
      have m1' := npa (o := .list (q.pars.map parV ++ [.tup [.str x.1,.int x.2,.str (if (cl || vr) = true then [112,97,114] else [118,97,114]),.bool cl,.int 0,.ref h.t,.str h.owner]])) m1
      walk_at "X"
      by_cases hr : k.T.form h.t = [114,101,99,111,114,100]
      · have z := fin 2 ((q.words : Int) + 2) (by rw [hw,hr]; rfl) rfl
        simp only [parV,hkd,hcl,hwh,if_false,Bool.false_eq_true] at z
        walk_at "X"
        walk_at "z"
        exact z
      · have z := fin 1 ((q.words : Int) + 1) (by rw [hw]; simp [hr]) rfl
        simp only [parV,hkd,hcl,hwh,if_false,Bool.false_eq_true] at z
        walk_at "X"
        walk_at "z"
        exact z
  unfold entB at twice once
  simp only [List.drop] at twice once
  by_cases hn : x.1 ∈ q.pars.map Par.name
  · have z := twice (by simp [tkn,hn])
    walk_at "Z"
    exact z
  · by_cases hm : 0 < (k.many : Int)
    · by_cases ha : x.1 = [97,48]
      · have z := twice (by simp [tkn,ha]; right; omega)
        walk_at "Z"
        exact z
      · have z := once (by simp [tkn,hn,ha])
        walk_at "Z"
        exact z
    · have z := once (by simp [tkn,hn]; intro z; omega)
      walk_at "Z"
      exact z
end
end
section
theorem datL_nm : ∀ {ns : List (Tx × Nat)},(∀ x ∈ ns,x.1 ∈ idV ∧ x.2 ≤ 700000) → datL (ns.map nmV) = true ∧ depthL (ns.map nmV) ≤ 1
  | [],_ => ⟨rfl,Nat.zero_le _⟩
  | x :: r,h => by
    obtain ⟨a,b⟩ := datL_nm fun y hy => h y (List.mem_cons_of_mem _ hy)
    have hx := (h x List.mem_cons_self).1
    have := List.all_eq_true.mp (show idV.all asc = true by decide +kernel) _ hx
    refine ⟨by simp [datL,nmV,V.dat,this,a],?_⟩
    simp only [List.map_cons,depthL,nmV,V.depth]
    omega
section
variable {sp : Sp} (hC : Calls sp) {k : Kit} (hk : DOk k) {ag : List Tx} {back : Addr} {bh : Option Nat}
include hC hk
theorem l_enterL {K : SPost} {h : Hd} {vr op cl : Bool} {t nm : Addr} {all : List V} {ar : Nat} (hkd : h.kind = if cl || vr then [112,97,114] else [118,97,114]) (hcl : h.closed = cl) (hwh : h.which = if op then ar else 0) (ht : h.t = t) (hw : h.w = if op || decide (k.T.form t = [114,101,99,111,114,100]) then 2 else 1)
    (n1 : nm ≠ k.ma) (n2 : nm ≠ k.pa) : ∀ (xs : List (Tx × Nat)) (q : QS) (aa : Addr) (ρ : Rho) (H : AH) (bq : Bq K),DS k q ag back none (some t) bh aa ρ H → q.ps.ar = ar → H nm = some (.list all) → (∀ x ∈ xs,x.1 ∈ idV ∧ x.2 ≤ 700000) → q.pars.length + xs.length + q.ps.rs.length ≤ 5000 →
    ρ .n_closed = some (.bool cl) → ρ .n_variable = some (.bool vr) → ρ .n_opened = some (.bool op) → ρ .n_owner = some (.str h.owner) →
    (∀ ρ' H',DS k (enterP (decide (0 < k.many)) h xs q) ag back none (some t) bh aa ρ' H' → K .next ρ' H') → FL (srcL nm all) (setT [.n_name,.n_where]) (bodyB sp entB) (xs.map nmV) ρ H K bq := by
  intro xs
  induction xs with
  | nil =>
    intro q aa ρ H bq D har hnm hx hl r3 r4 r5 r6 kk
    exact fl_nil hnm (kk ρ H D)
  | cons x xs ih =>
    intro q aa ρ H bq D har hnm hx hl r3 r4 r5 r6 kk
    simp only [List.length_cons] at hl
    refine fl_cons hnm (ρ1 := putAll ρ [.n_name,.n_where] [.str x.1,.int x.2]) rfl ?_
    have e1 := (enterP_ps (decide (0 < k.many)) h [x] q)
    refine l_enter1 hC hk (q := q) (aa := aa) (tt := some t) (D.rho fun n hn => ?_) rfl hkd hcl (by rw [hwh,har]) ht hw rfl rfl ?_ ?_ ?_ ?_ (hx x List.mem_cons_self).2 (by omega) fun ρ' H' hρ D' hk' => ?_
    · simp only [putAll]
      rw [put_ne (fun e => by subst e; revert hn; decide),put_ne (fun e => by subst e; revert hn; decide)]
    · exact r3
    · exact r4
    · exact r5
    · exact r6
    · have z : FL (srcL nm all) (setT [.n_name,.n_where]) (bodyB sp entB) (xs.map nmV) ρ' H' K ⟨⟩ := by
        refine ih _ aa ρ' H' ⟨⟩ D' (e1.2.1.trans har) (hk' _ _ hnm (by simp [n1,n2])) (fun y hy => hx y (List.mem_cons_of_mem _ hy)) ?_ ?_ ?_ ?_ ?_ fun ρ2 H2 a => kk ρ2 H2 a
        · rw [e1.1]; have := e1.2.2; simp only [List.length_cons,List.length_nil] at this; omega
        · rw [hρ _ (by decide)]; exact r3
        · rw [hρ _ (by decide)]; exact r4
        · rw [hρ _ (by decide)]; exact r5
        · rw [hρ _ (by decide)]; exact r6
      exact ⟨z,z⟩
end
section
variable {sp : Sp} (hC : Calls sp) {k : Kit} (hk : DOk k) {q : QS} {ag : List Tx} {back : Addr} {bh : Option Nat} {Q : SPost} {P : Rho → AH → Prop}
  (hP : ∀ ρ H,wpT sp ρ dueT H (fun H1 => wpSs sp dueB ρ H1 (whK Q P)) (fun H1 => Q .next ρ H1) → P ρ H)
include hC hk hP
theorem d_entered {vr op : Bool} {ns : List (Tx × Nat)} {t : Addr}
    (h : Wp k P (enterP (decide (0 < k.many)) (hdOf k.T vr op t (q.ps.ar + if op then 1 else 0) (ownerOf ns)) ns { q with ps := { q.ps with ar := q.ps.ar + if op then 1 else 0 } }) ag back none (some t) bh) : Wp k P q (ag ++ [[101,110,116,101,114,101,100]]) back (some (vr,ns,op)) (some t) bh := by
  intro aa ρ H D
  refine due_turn hP hk D fun ρ H D e1 e2 e3 e4 => ?_
  obtain ⟨i,q9,q9b,q9c⟩ := D.r9
  have q1 := D.r1; have q2 := D.r2; have q3 := D.r3; have q4 := D.r4; have q5 := D.r5; have q6 := D.r6; have q7 := D.r7; have q8 := D.r8; have q10 := D.r10; have q11 := D.r11; have q12 := D.r12; have qa := D.haa; have qm := D.hma; have qp := D.hpa; have qr := D.base _ _ hk.ra (by simp); have qn := D.base _ _ hk.mn (by simp)
  unfold dueR dueB; simp only [List.drop]
  obtain ⟨s1,s2,nm,s3,s4,s5,s6,s7,s8,s9⟩ := id D.sc
  obtain ⟨t1,t2⟩ := D.tt t rfl
  have hpl := D.pl
  simp only [nlen] at hpl
  have hcmp : comparable (ns.map nmV) [] := ⟨(datL_nm s9).1,rfl,mixL_nil _,Nat.le_trans (datL_nm s9).2 (by omega),Nat.zero_le _⟩
  have fin : ∀ (K : SPost),(∀ ρ H,P ρ H → K .next ρ H) → ∀ (ρ : Rho) (H : AH) (cl : Bool),DS k { q with ps := { q.ps with ar := q.ps.ar + if op then 1 else 0 } } ag back none (some t) bh aa ρ H → H nm = some (.list (ns.map nmV)) → ρ .n_names = some (.ref nm) → ρ .n_closed = some (.bool cl) → ρ .n_variable = some (.bool vr) → ρ .n_opened = some (.bool op) → ρ .n_owner = some (.str (ownerOf ns)) →
      cl = ((op || isSt (k.T.form t)) && !vr) → wpSs sp [.forT [.n_name,.n_where] (E.loc .n_names) entB] ρ H K := by
    intro K hK ρ H cl D hnm r2 r3 r4 r5 r6 hcl
    subst hcl
    walk_at "X"
    refine l_enterL hC hk (vr := vr) (op := op) (cl := (op || isSt (k.T.form t)) && !vr) (t := t) (h := hdOf k.T vr op t (q.ps.ar + if op then 1 else 0) (ownerOf ns)) rfl rfl rfl rfl rfl s6 s7 ns _ aa ρ H ⟨⟩ D rfl hnm s9 (by simpa using hpl) r3 r4 r5 r6 fun ρ' H' D' => ?_
    walk_at "X"
    exact hK _ _ (h _ _ _ D')
  unfold entB at fin
  have hfo : ∀ {H' : AH},KpX [] k.H0 H' → ∃ m,H' t = some (.inst .c_Type m) ∧ lk m .n_form = some (.str (k.T.form t)) := fun b => by
    obtain ⟨m,l,a,b,-⟩ := t2.x b; exact ⟨m,a,b⟩
  have step2 : ∀ (K : SPost),(∀ ρ H,P ρ H → K .next ρ H) → ∀ (ρ : Rho) (H : AH),DS k { q with ps := { q.ps with ar := q.ps.ar + if op then 1 else 0 } } ag back none (some t) bh aa ρ H → H nm = some (.list (ns.map nmV)) → ρ .n_names = some (.ref nm) → ρ .n_variable = some (.bool vr) → ρ .n_opened = some (.bool op) → ρ .n_owner = some (.str (ownerOf ns)) →
      wpSs sp (.asg .n_closed (E.and [(E.or [(E.loc .n_opened),(E.cmp .isin (E.attr (E.loc .n_t) .n_form) (E.list [(E.str [97,114,114,97,121]),(E.str [114,101,99,111,114,100])]))]),(E.not (E.loc .n_variable))]) :: [.forT [.n_name,.n_where] (E.loc .n_names) entB]) ρ H K := by
    intro K hK ρ H D hnm r2 r4 r5 r6
    obtain ⟨r7,-⟩ := D.tt t rfl
    have go : ∀ (b : Bool) (H : AH),b = (op || isSt (k.T.form t)) → DS k { q with ps := { q.ps with ar := q.ps.ar + if op then 1 else 0 } } ag back none (some t) bh aa ρ H → H nm = some (.list (ns.map nmV)) →
        AndV sp ρ (.bool b) [E.not (E.loc .n_variable)] H (fun v H1 => wpSs sp [.forT [.n_name,.n_where] (E.loc .n_names) entB] (put ρ .n_closed v) H1 K) ⟨⟩ := by
      intro b H hb D hnm
      unfold entB
      have z := fin K hK (put ρ .n_closed (.bool (b && !vr))) H (b && !vr) (D.u_tmp (by decide)) hnm r2 rfl r4 r5 r6 (by rw [hb])
      cases b with
      | true =>
        walk_at "X"
        walk_at "z"
        exact z
      | false =>
        walk_at "X"
        walk_at "z"
        exact z
    unfold entB at go ⊢
    cases op with
    | true =>
      have z := go true H rfl D hnm
      walk_at "Z"
      exact z
    | false =>
      obtain ⟨m,m1,m2⟩ := hfo D.base
      walk_at "X"
      intro c hc
      have D2 := D.keepF (o := .list [.str [97,114,114,97,121],.str [114,101,99,111,114,100]]) hc
      have hc2 : put H c (.list [.str [97,114,114,97,121],.str [114,101,99,111,114,100]]) c = some (.list [.str [97,114,114,97,121],.str [114,101,99,111,114,100]]) := put_same
      have hnm2 := pt (x := .list [.str [97,114,114,97,121],.str [114,101,99,111,114,100]]) hnm (nf hnm hc)
      have z := go (decide (k.T.form t ∈ [[97,114,114,97,121],[114,101,99,111,114,100]])) _ (by simp [isSt]) D2 hnm2
      generalize put H c (.list [.str [97,114,114,97,121],.str [114,101,99,111,114,100]]) = H1 at *
      walk_at "Z"
      exact z
  unfold entB at step2
  have D1 := D.u_nosec
  cases op with
  | true =>
    have D2 := (D1.u_arr (n := q.ps.ar + 1) (a := (q.ps.ar : Int) + 1) rfl)
    walk_at "X"
    intro c hc
    have D3 := D2.keepF (o := .list []) hc
    have hc2 : put H c (.list []) c = some (.list []) := put_same
    have s4' := pt (x := .list []) s4 (nf s4 hc)
    generalize put H c (.list []) = H1 at *
    cases ns with
    | nil =>
      have z := step2 (seqK sp [] (seqK sp [] (seqK sp [] (seqK sp [] (seqK sp [] (seqK sp [] (seqK sp [] (seqK sp [] (seqK sp [] (whK Q P)))))))))) (fun _ _ p => p) (put (put ρ .n_arrays (.int ((q.ps.ar : Int) + 1))) .n_owner (.str [])) H1 (D3.u_tmp (by decide)) s4' s3 s1 s2 rfl
      walk_at "Z"
      exact z
    | cons x r =>
      have z := step2 (seqK sp [] (seqK sp [] (seqK sp [] (seqK sp [] (seqK sp [] (seqK sp [] (seqK sp [] (seqK sp [] (seqK sp [] (whK Q P)))))))))) (fun _ _ p => p) (put (put ρ .n_arrays (.int ((q.ps.ar : Int) + 1))) .n_owner (.str x.1)) H1 (D3.u_tmp (by decide)) s4' s3 s1 s2 rfl
      have hne : ¬ (x :: r).map nmV = [] := by simp
      have hit : It ((x :: r).map nmV) 0 (.tup [.str x.1,.int x.2]) := ⟨rfl⟩
      walk_at "Z"
      exact z
  | false =>
    have D2 := (D1.u_arr (n := q.ps.ar) (a := (q.ps.ar : Int) + 0) (by omega))
    walk_at "X"
    intro c hc
    have D3 := D2.keepF (o := .list []) hc
    have hc2 : put H c (.list []) c = some (.list []) := put_same
    have s4' := pt (x := .list []) s4 (nf s4 hc)
    generalize put H c (.list []) = H1 at *
    cases ns with
    | nil =>
      have z := step2 (seqK sp [] (seqK sp [] (seqK sp [] (seqK sp [] (seqK sp [] (seqK sp [] (seqK sp [] (seqK sp [] (seqK sp [] (whK Q P)))))))))) (fun _ _ p => p) (put (put ρ .n_arrays (.int ((q.ps.ar : Int) + 0))) .n_owner (.str [])) H1 (D3.u_tmp (by decide)) s4' s3 s1 s2 rfl
      walk_at "Z"
      exact z
    | cons x r =>
      have z := step2 (seqK sp [] (seqK sp [] (seqK sp [] (seqK sp [] (seqK sp [] (seqK sp [] (seqK sp [] (seqK sp [] (seqK sp [] (whK Q P)))))))))) (fun _ _ p => p) (put (put ρ .n_arrays (.int ((q.ps.ar : Int) + 0))) .n_owner (.str x.1)) H1 (D3.u_tmp (by decide)) s4' s3 s1 s2 rfl
      have hne : ¬ (x :: r).map nmV = [] := by simp
      have hit : It ((x :: r).map nmV) 0 (.tup [.str x.1,.int x.2]) := ⟨rfl⟩
      walk_at "Z"
      exact z
end
end
section
section
variable {sp : Sp} (hC : Calls sp) {k : Kit} (hk : DOk k) {ag : List Tx} {back : Addr} {bh : Option Nat} {Q : SPost} {P : Rho → AH → Prop}
  (hP : ∀ ρ H,wpT sp ρ dueT H (fun H1 => wpSs sp dueB ρ H1 (whK Q P)) (fun H1 => Q .next ρ H1) → P ρ H)
include hC hk hP
omit hC hk hP in
theorem Wp.nil {q : QS} {back : Addr} {sec : Sec} {tt : Option Addr} (h : q.ps.rs = []) : Wp k P q ag back sec tt bh := fun _ _ _ D => absurd h D.ne
omit hC hk hP in
theorem Wp.imp {q : QS} {sec : Sec} {tt : Option Addr} (h : q.ps.rs ≠ [] → Wp k P q ag back sec tt bh) : Wp k P q ag back sec tt bh := fun aa ρ H D => h D.ne aa ρ H D
theorem w_names {vr op : Bool} {tt : Option Addr} (hag : ag.length ≤ 40) : ∀ (n : Nat) (q : QS) (ns : List (Tx × Nat)),q.ps.rs.length ≤ n → Wp k P { q with ps := (namesF n q.ps).2 } ag back (some (vr,ns ++ (namesF n q.ps).1,op)) tt bh → Wp k P q (ag ++ [[110,97,109,101]]) back (some (vr,ns,op)) tt bh
  | 0,q,ns,hl,_ => Wp.nil (List.length_eq_zero_iff.mp (Nat.le_zero.mp hl))
  | n + 1,q,ns,hl,h => by
    refine d_name hC hk hP hag (fun e => ?_) (fun e e2 => ?_) fun e e2 => ?_
    · rw [namesF,if_neg e] at h; simpa using h
    · rw [namesF,if_pos e,if_neg e2] at h; exact h
    · rw [namesF,if_pos e,if_pos e2] at h
      refine w_names hag n { q with ps := stepS (stepS q.ps) } _ ?_ ?_
      · have := tail_len (by decide) e; have := tail_len (by decide) e2; simp only [stepS]; omega
      · rw [List.append_assoc]; exact h
theorem w_pass {sec : Sec} {tt : Option Addr} (hag : ag.length ≤ 40) : ∀ (n : Nat) (q : QS),q.ps.rs.length ≤ n → Wp k P { q with ps := passF n q.ps } ag back sec tt bh → Wp k P q (ag ++ [[112,97,115,115,101,100]]) back sec tt bh
  | 0,q,hl,_ => Wp.nil (List.length_eq_zero_iff.mp (Nat.le_zero.mp hl))
  | n + 1,q,hl,h => by
    refine d_passed hC hk hP hag (fun e => ?_) fun e => ?_
    · rw [passF,if_pos e] at h
      have : ag ++ [[112,97,115,115,101,100],[79,70]] = (ag ++ [[112,97,115,115,101,100]]) ++ [[79,70]] := by simp
      rw [this]
      refine d_sign hC hk hP (by simp) ?_
      refine w_pass hag n { q with ps := expS (stepS q.ps) [79,70] } ?_ h
      have := tail_len (by decide) e; have := expS_len (stepS q.ps) [79,70]; simp only [stepS] at *; omega
    · rw [passF,if_neg e] at h; exact h
theorem w_noarr {q : QS} {sec : Sec} {tt : Option Addr} (hag : ag.length ≤ 40) (h : Wp k P { q with ps := openP q.ps } ag back sec tt bh) : Wp k P q (ag ++ [[110,111,95,97,114,114,97,121]]) back sec tt bh := by
  refine d_noarr hC hk hP hag (fun e => ?_) fun e => ?_
  · rw [openP,if_pos e] at h
    exact w_pass hC hk hP hag q.ps.rs.length { q with ps := markS q.ps (spo q.ps.rs) [111,112,101,110,95,97,114,114,97,121] } (Nat.le_refl _) h
  · rw [openP,if_neg e] at h; exact h
theorem w_formal {q : QS} {vr : Bool} {ns : List (Tx × Nat)} {tt : Option Addr} (hag : ag.length ≤ 37) (h : Wp k P { q with ps := (formalP k.T q.ps).2.2 } ag back (some (vr,ns,(formalP k.T q.ps).1)) (some (formalP k.T q.ps).2.1) bh) :
    Wp k P q (ag ++ [[102,111,114,109,97,108]]) back (some (vr,ns,false)) tt bh := by
  refine d_formal hC hk hP (by omega) (fun e => ?_) fun e => ?_
  · rw [formalP,if_pos e] at h
    have : ag ++ [[110,97,109,101,100],[110,111,95,97,114,114,97,121],[79,70]] = ((ag ++ [[110,97,109,101,100]]) ++ [[110,111,95,97,114,114,97,121]]) ++ [[79,70]] := by simp
    rw [this]
    refine d_sign hC hk hP (by simp) ?_
    refine w_noarr hC hk hP (by simp; omega) ?_
    exact d_named hC hk hP h
  · rw [formalP,if_neg e] at h
    exact d_named hC hk hP h
theorem w_section {q : QS} {sec : Sec} {tt : Option Addr} (hag : ag.length ≤ 30) (h : ∀ tt,Wp k P (sectionP k.T (decide (0 < k.many)) q) ag back none tt bh) : Wp k P q (ag ++ [[115,101,99,116,105,111,110]]) back sec tt bh := by
  refine d_section hC hk hP (by omega) ?_
  have : ag ++ [[101,110,116,101,114,101,100],[102,111,114,109,97,108],[58],[110,97,109,101]] = (((ag ++ [[101,110,116,101,114,101,100]]) ++ [[102,111,114,109,97,108]]) ++ [[58]]) ++ [[110,97,109,101]] := by simp
  rw [this]
  refine w_names hC hk hP (by simp; omega) (varS q.ps).rs.length _ [] (Nat.le_refl _) ?_
  refine d_sign hC hk hP (by simp) ?_
  refine w_formal hC hk hP (by simp; omega) ?_
  refine d_entered hC hk hP ?_
  exact h _
theorem w_further (hag : ag.length ≤ 28) : ∀ (n : Nat) (q : QS) (tt : Option Addr),q.ps.rs.length ≤ n → (∀ tt,Wp k P (furtherF k.T (decide (0 < k.many)) n q) ag back none tt bh) → Wp k P q (ag ++ [[102,117,114,116,104,101,114]]) back none tt bh
  | 0,q,tt,hl,_ => Wp.nil (List.length_eq_zero_iff.mp (Nat.le_zero.mp hl))
  | n + 1,q,tt,hl,h => by
    refine d_further hC hk hP (by omega) (fun e => ?_) fun e => ?_
    · rw [furtherF,if_pos e] at h
      have : ag ++ [[102,117,114,116,104,101,114],[115,101,99,116,105,111,110]] = (ag ++ [[102,117,114,116,104,101,114]]) ++ [[115,101,99,116,105,111,110]] := by simp
      rw [this]
      refine w_section hC hk hP (by simp; omega) fun tt => w_further hag n _ tt ?_ h
      have := tail_len (by decide) e; have := (sectionP_len k.T (decide (0 < k.many)) { q with ps := stepS q.ps }).1; simp only [stepS] at *; omega
    · rw [furtherF,if_neg e] at h; exact h tt
theorem w_result {q : QS} {tt : Option Addr} (h : ∀ tt bh,Wp k P { q with ps := (resultP k.T q.ps).2 } [] (resultP k.T q.ps).1 none tt bh) : Wp k P q ([] ++ [[114,101,115,117,108,116]]) k.T.tn none tt bh := by
  refine d_result hC hk hP (by simp) (fun e => ?_) fun e => ?_
  · rw [resultP,if_pos e] at h
    have : ([] : List Tx) ++ [[115,105,110,103,108,101],[110,97,109,101,100]] = ([] ++ [[115,105,110,103,108,101]]) ++ [[110,97,109,101,100]] := by simp
    rw [this]
    refine d_named hC hk hP ?_
    refine d_single hC hk hP (fun e2 => ?_) fun e2 => ?_
    · have e2 : isSt (k.T.form (typeP k.T (stepS q.ps)).1) = true := e2
      rw [if_pos e2] at h
      exact h _ _
    · have e2 : isSt (k.T.form (typeP k.T (stepS q.ps)).1) = false := e2
      rw [e2] at h
      exact h _ _
  · rw [resultP,if_neg e] at h
    exact h _ _
theorem w_list {q : QS} {tt : Option Addr} (hm : k.many = 0) (h : ∀ tt bh,Wp k P (listP k.T q).2 [] (listP k.T q).1 none tt bh) : Wp k P q ([] ++ [[108,105,115,116]]) k.T.tn none tt bh := by
  have hf : decide (0 < k.many) = false := by rw [hm]; rfl
  refine d_list hC hk hP (fun e e2 => ?_) (fun e e2 => ?_) fun e => ?_
  · simp only [listP] at h
    rw [if_pos e,if_pos (show so (stepS q.ps).rs = _ from e2)] at h
    have : [[114,101,115,117,108,116],[41]] = ([] ++ [[114,101,115,117,108,116]]) ++ [([41] : Tx)] := rfl
    rw [this]
    refine d_sign hC hk hP (by simp) ?_
    exact w_result hC hk hP h
  · simp only [listP] at h
    rw [if_pos e,if_neg (show so (stepS q.ps).rs ≠ _ from e2)] at h
    have : [[114,101,115,117,108,116],[41],[102,117,114,116,104,101,114],[115,101,99,116,105,111,110]] = ((([] ++ [[114,101,115,117,108,116]]) ++ [([41] : Tx)]) ++ [[102,117,114,116,104,101,114]]) ++ [[115,101,99,116,105,111,110]] := rfl
    rw [this]
    refine w_section hC hk hP (by simp) fun tt => ?_
    rw [hf]
    refine w_further hC hk hP (by simp) (stepS q.ps).rs.length _ tt (sectionP_len _ _ _).1 fun tt => ?_
    rw [hf]
    refine d_sign hC hk hP (by simp) ?_
    exact w_result hC hk hP h
  · simp only [listP] at h
    rw [if_neg e] at h
    exact h _ _
end
def dueP (T : Tab) (many : Nat) (R : List Row) : Addr × QS := if 0 < many then (T.tn,sectionP T true ⟨⟨R,[],0⟩,[],2 * many⟩) else listP T ⟨⟨R,[],0⟩,[],0⟩
section
variable {sp : Sp} (hC : Calls sp) {T : Tab} {R : List Row} {m : List (Tx × V)} {many : Nat} {H : AH} {ra mn : Addr} {Q : Post}
include hC
theorem c_due (h1 : H ra = some (.list (R.map rowV))) (h2 : H mn = some (.sd m)) (hw : Wf R) (hne : R ≠ []) (hM : MeanOk T m) (hl : R.length ≤ 1000) (ht : TyOk T H T.ti) (hu : ∀ n ∈ idV,∀ a,T.U n = .ty a → TyOk T H a) (hu2 : ∀ n ∈ idV,∀ a,T.U2 n = .ty a → TyOk T H a) (hmy : many ≤ 100)
    (kk : ∀ H' pa ma,H pa = none → H ma = none → pa ≠ ma → H' pa = some (.list ((dueP T many R).2.pars.map parV)) → H' ma = some (.list (mkV (dueP T many R).2.ps.ms)) → MkOk (dueP T many R).2.ps.ms → (dueP T many R).2.ps.rs ≠ [] → (dueP T many R).2.pars.length ≤ 5000 → KpX [] H H' →
      Q (.tup [.ref pa,.int (dueP T many R).2.ps.ar,.ref (dueP T many R).1,.ref ma,.tup [.str (so (dueP T many R).2.ps.rs),.str (sg (dueP T many R).2.ps.rs),.int (spo (dueP T many R).2.ps.rs)]]) H') :
    sp .f_law_due [.ref ra,.ref mn,.ref T.ti,.ref T.tn,.int many] H Q := by
  refine hC _ _ [] _ _ rfl ?_
  simp only [Fn.body,Fn.params,rhoOf,List.cons_append,List.nil_append]
  (unfold b_law_due; walk_at "X")
  intro ma hma
  have hra := pt (x := .list []) h1 (nf h1 hma)
  walk_at "X"
  intro pa hpa
  have npa := nf put_same hpa
  have hpa0 := (fresh_put hpa).1
  have k2 : KpX [] H (put (put H ma (.list [])) pa (.list [])) := (KpX.refl.putf hma).putf hpa0
  have ema : put (put H ma (.list [])) pa (.list []) ma = some (.list []) := pt put_same npa
  have epa : put (put H ma (.list [])) pa (.list []) pa = some (.list []) := put_same
  generalize put (put H ma (.list [])) pa (.list []) = H2 at *
  let K : Kit := ⟨ra,mn,ma,pa,R,m,T,many,H⟩
  have hk : DOk K := ⟨h1,h2,hw,hM,hl,hma,hpa0,npa,ht,hu,hu2,hmy⟩
  have hsm : small 2 ∧ small (many : Int) := ⟨⟨by decide,by decide⟩,⟨by omega,by omega⟩⟩
  have base : ∀ (c : Addr) (d : Tx) (w : Nat) (ww : Int),H2 c = none → asc d = true → ww = (w : Int) → DS K ⟨⟨R,[],0⟩,[],w⟩ ([] ++ [d]) T.tn none none none c
      (put (put (put (put (put (put (put (put (put (put (put (put (fun _ => none) .n_many (.int many)) .n_none (.ref T.tn)) .n_whole (.ref T.ti)) .n_meanings (.ref mn)) .n_rows (.ref ra)) .n_marks (.ref ma)) .n_pars (.ref pa)) .n_agenda (.ref c)) .n_at (.int 0)) .n_words (.int ww)) .n_arrays (.int 0)) .n_back (.ref T.tn))
      (put H2 c (.list [.str d])) := by
    intro c d w ww hc hd ew
    subst ew
    exact ⟨rfl,rfl,rfl,rfl,rfl,rfl,rfl,rfl,⟨0,rfl,rfl,by omega⟩,rfl,rfl,rfl,hne,⟨List.nodup_nil,(fun _ h => nomatch h)⟩,pt ema (nf ema hc),pt epa (nf epa hc),put_same,k2.fr hc (by simp),Ne.symm (nf ema hc),Ne.symm (nf epa hc),
      fun x hx => by rw [List.mem_singleton.mp hx]; exact hd,k2.putf (k2.fr hc (by simp)),trivial,(fun _ e => nomatch e),(fun _ e => nomatch e),by simp [nlen]; omega,by simp⟩
  have fin : ∀ (Q' : SPost) (P : Rho → AH → Prop),(∀ ρ H,wpT sp ρ dueT H (fun H1 => wpSs sp dueB ρ H1 (whK Q' P)) (fun H1 => Q' .next ρ H1) → P ρ H) →
      (Q' = seqK sp [.ret (E.tup [(E.loc .n_pars),(E.loc .n_arrays),(E.loc .n_back),(E.loc .n_marks),(E.idx (E.loc .n_rows) (E.loc .n_at))])] fun fl _ H' => Q (retOf fl) H') → ∀ tt bh,Wp K P (dueP T many R).2 [] (dueP T many R).1 none tt bh := by
    intro Q' P hP eQ tt bh aa ρ H D
    subst eQ
    refine hP _ _ ?_
    obtain ⟨i,q9,q9b,q9c⟩ := D.r9
    have q1 := D.r1; have q2 := D.r2; have q3 := D.r3; have q4 := D.r4; have q5 := D.r5; have q6 := D.r6; have q7 := D.r7; have q8 := D.r8; have q10 := D.r10; have q11 := D.r11; have q12 := D.r12; have qa := D.haa; have qm := D.hma; have qp := D.hpa; have qr := D.base _ _ hk.ra (by simp); have qn := D.base _ _ hk.mn (by simp)
    unfold dueT
    walk_at "X"
    intro c hc
    have D2 := D.keepF (o := .list []) hc
    have hc2 : put H c (.list []) c = some (.list []) := put_same
    have qa2 := D2.haa
    have qr2 := D2.base _ _ hk.ra (by simp)
    have hcmp : comparable (List.map V.str []) [] := ⟨rfl,rfl,rfl,Nat.zero_le _,Nat.zero_le _⟩
    have a0 := row_at q9b D2.ne (by omega)
    generalize put H c (.list []) = H1 at *
    walk_at "X"
    exact kk H1 pa ma hpa0 hma (Ne.symm npa) D2.hpa D2.hma D2.ok D2.ne (by have := D2.pl; simp only [nlen] at this; omega) D2.base
  by_cases hm : (0 : Int) < (many : Int)
  · have hm' : 0 < many := by omega
    walk_at "X"
    intro c hc
    have D := base c [115,101,99,116,105,111,110] (2 * many) (2 * (many : Int)) hc (by simp [asc]) (by omega)
    walk_at "X"
    refine whl_in fun P hP => ?_
    have z : Wp K P ⟨⟨R,[],0⟩,[],2 * many⟩ ([] ++ [[115,101,99,116,105,111,110]]) T.tn none none none := by
      refine w_section hC hk hP (by simp) fun tt => ?_
      have f := fin _ P hP rfl tt none
      rw [dueP,if_pos hm'] at f
      rw [show decide (0 < K.many) = true from decide_eq_true hm']
      exact f
    exact z _ _ _ D
  · have hm' : many = 0 := by omega
    walk_at "X"
    intro c hc
    have D := base c [108,105,115,116] (2 * many) (2 * (many : Int)) hc (by simp [asc]) (by omega)
    walk_at "X"
    refine whl_in fun P hP => ?_
    have z : Wp K P ⟨⟨R,[],0⟩,[],2 * many⟩ ([] ++ [[108,105,115,116]]) T.tn none none none := by
      have f := fin _ P hP rfl
      rw [dueP,if_neg (by omega)] at f
      rw [hm']
      exact w_list hC hk hP hm' f
    exact z _ _ _ D
end
end
section

def PL (H : AH) (pa ca : Addr) : Prop := ∃ (ns : List Int) (r x : Int),H pa = some (.list [.ref ca,.int r,.int x]) ∧ H ca = some (.list (ns.map V.int)) ∧ 0 ≤ x ∧ x < 32749 ∧ ns.length ≤ 100000 ∧ ca ≠ pa
theorem PL.keep {H H' : AH} {pa ca : Addr} (h : PL H pa ca) (k : ∀ a o,H a = some o → H' a = some o) : PL H' pa ca := by
  obtain ⟨ns,r,x,h1,h2,h3⟩ := h; exact ⟨ns,r,x,k _ _ h1,k _ _ h2,h3⟩
theorem datL_int : ∀ (l : List Int),datL (l.map V.int) = true ∧ depthL (l.map V.int) = 0
  | [] => ⟨rfl,rfl⟩
  | x :: l => by obtain ⟨a,b⟩ := datL_int l; exact ⟨by simp [datL,V.dat,a],by simp [depthL,V.depth,b]⟩
section
variable {sp : Sp} (hC : Calls sp) {H : AH} {Q : Post} {pa ca : Addr}
include hC
theorem c_ltake {most : Nat} (hp : PL H pa ca) (h0 : 0 < most) (h1 : most ≤ 1000) (k : ∀ (v : Nat) H',v < most → PL H' pa ca → KpX [pa,ca] H H' → Q (.int v) H') : sp .f_law_take [.ref pa,.int most] H Q := by
  refine hC _ _ [] _ _ rfl ?_
  obtain ⟨ns,r,x,p1,p2,p3,p4,p5,p6⟩ := hp
  have m0 : (0 : Int) < most ∧ (most : Int) ≤ 1000000 := ⟨by omega,by omega⟩
  have m1 : (0 : Int) < (most : Int) := by omega
  have fin : ∀ (r x : Int) (H2 : AH) (ρ : Rho),ρ .n_pool = some (.ref pa) → ρ .n_rest = some (.int r) → ρ .n_mixed = some (.int x) → ρ .n_most = some (.int most) → (∃ (ns : List Int) (r x : Int),H2 pa = some (.list [.ref ca,.int r,.int x]) ∧ H2 ca = some (.list (ns.map V.int)) ∧ ns.length ≤ 100000) → 0 ≤ x → x < 32749 → KpX [pa,ca] H H2 →
      wpSs sp [.sidx (E.loc .n_pool) (E.int 1) (E.bin .fdiv (E.loc .n_rest) (E.loc .n_most)),.sidx (E.loc .n_pool) (E.int 2) (E.loc .n_mixed),.ret (E.bin .mod (E.loc .n_rest) (E.loc .n_most))] ρ H2 (fun fl _ H' => Q (retOf fl) H') := by
    intro r x H2 ρ r1 r2 r3 r4 ⟨ns,r',x',g1,g2,g3⟩ g4 g5 g6
    have i1 : (0 : Int) ≤ 1 ∧ (1 : Int) ≤ 1000000 ∧ (1 : Int).toNat < [V.ref ca,V.int r',V.int x'].length := ⟨by decide,by decide,show 1 < 3 by omega⟩
    have i2 : (0 : Int) ≤ 2 ∧ (2 : Int) ≤ 1000000 ∧ (2 : Int).toNat < ([V.ref ca,V.int r',V.int x'].set (1 : Int).toNat (V.int (r / most))).length := ⟨by decide,by decide,show 2 < 3 by omega⟩
    walk_at "X"
    obtain ⟨v,hv⟩ : ∃ v : Nat,r % most = v := ⟨(r % most).toNat,(Int.toNat_of_nonneg (Int.emod_nonneg _ (by omega))).symm⟩
    have hv2 := Int.emod_lt_of_pos r m1
    rw [hv]
    refine k v _ (by omega) ⟨ns,r / most,x,?_,?_,g4,g5,g3,p6⟩ ((g6.putm (by simp)).putm (by simp))
    · rw [put_same]; rfl
    · rw [put_ne p6,put_ne p6]; exact g2
  have h400 : (0 : Int) < ((10 : Nat) : Int) ^ 400 := Int.pow_pos (by decide)
  have sm : ∀ y : Int,0 ≤ y → y < 32749 → small y ∧ small 157 := fun y a b => ⟨⟨by omega,by omega⟩,⟨by decide,by decide⟩⟩
  have md : ∀ y : Int,0 ≤ y % 32749 ∧ y % 32749 < 32749 := fun y => ⟨Int.emod_nonneg _ (by decide),Int.emod_lt_of_pos _ (by decide)⟩
  have hs := sm x p3 p4
  simp only [Fn.body,Fn.params,rhoOf,List.cons_append,List.nil_append]
  (unfold b_law_take; walk_at "X")
  refine Brn.mk (fun e => ?_) fun e => ?_
  · have hcmp : comparable (ns.map V.int) [] := ⟨(datL_int ns).1,rfl,mixL_nil _,by rw [(datL_int ns).2]; omega,Nat.zero_le _⟩
    walk_at "X"
    intro c hc
    have q1 := pt (x := .list []) p1 (nf p1 hc)
    have q2 := pt (x := .list []) p2 (nf p2 hc)
    have q3 : put H c (.list []) c = some (.list []) := put_same
    have q4 : KpX [pa,ca] H (put H c (.list [])) := KpX.refl.putf hc
    generalize put H c (.list []) = H1 at *
    cases ns with
    | nil =>
      have z := fin (x * 157 % 32749) (x * 157 % 32749) H1 (put (put (putAll (put (put (fun _ => none) .n_most (.int most)) .n_pool (.ref pa)) [.n_cells,.n_rest,.n_mixed] [.ref ca,.int r,.int x]) .n_mixed (.int (x * 157 % 32749))) .n_rest (.int (x * 157 % 32749))) rfl rfl rfl rfl ⟨[],r,x,q1,q2,p5⟩ (md _).1 (md _).2 q4
      have sm0 : (0 : Int) < 32749 := by decide
      walk_at "Z"
      exact z
    | cons b ns =>
      have hne : ¬ V.int b :: ns.map V.int = [] := by simp
      have hcmp2 : comparable (V.int b :: ns.map V.int) [] := hcmp
      have hlen : (ns.map V.int).length ≤ 1000000 := by simp at p5 ⊢; omega
      have q2' : H1 ca = some (.list (.int b :: ns.map V.int)) := q2
      clear q2
      walk_at "X"
      refine Brn.mk (fun e2 => ?_) fun e2 => ?_
      · have z := fin ((if b < 0 then -b else b) % ((10 : Nat) : Int) ^ 400) x (put H1 ca (.list (ns.map V.int))) (put (put (putAll (put (put (fun _ => none) .n_most (.int most)) .n_pool (.ref pa)) [.n_cells,.n_rest,.n_mixed] [.ref ca,.int r,.int x]) .n_big (.int (if b < 0 then -b else b))) .n_rest (.int ((if b < 0 then -b else b) % ((10 : Nat) : Int) ^ 400))) rfl rfl rfl rfl ⟨ns,r,x,pt q1 (Ne.symm p6),put_same,by simp at p5; omega⟩ p3 p4 (q4.putm (by simp))
        walk_at "Z"
        generalize ((10 : Nat) : Int) ^ 400 = big at *
        exact z
      · have sm3 : small ((if b < 0 then -b else b) % 32719) ∧ small 89 := by
          have a := Int.emod_nonneg (if b < 0 then -b else b) (show (32719 : Int) ≠ 0 by decide)
          have c := Int.emod_lt_of_pos (if b < 0 then -b else b) (show (0 : Int) < 32719 by decide)
          exact ⟨⟨by omega,by omega⟩,⟨by decide,by decide⟩⟩
        have z := fin ((x * 157 + (if b < 0 then -b else b) % 32719 * 89 + 11) % 32749) ((x * 157 + (if b < 0 then -b else b) % 32719 * 89 + 11) % 32749) (put H1 ca (.list (ns.map V.int)))
          (put (put (put (putAll (put (put (fun _ => none) .n_most (.int most)) .n_pool (.ref pa)) [.n_cells,.n_rest,.n_mixed] [.ref ca,.int r,.int x]) .n_big (.int (if b < 0 then -b else b))) .n_mixed (.int ((x * 157 + (if b < 0 then -b else b) % 32719 * 89 + 11) % 32749))) .n_rest (.int ((x * 157 + (if b < 0 then -b else b) % 32719 * 89 + 11) % 32749))) rfl rfl rfl rfl ⟨ns,r,x,pt q1 (Ne.symm p6),put_same,by simp at p5; omega⟩ (md _).1 (md _).2 (q4.putm (by simp))
        walk_at "X"
        walk_at "z"
        exact z
  · have z := fin r x H (putAll (put (put (fun _ => none) .n_most (.int most)) .n_pool (.ref pa)) [.n_cells,.n_rest,.n_mixed] [.ref ca,.int r,.int x]) rfl rfl rfl rfl ⟨ns,r,x,p1,p2,p5⟩ p3 p4 .refl
    walk_at "X"
    walk_at "z"
    exact z
end
end
section
theorem PL.new {H : AH} {pa ca : Addr} (h : PL H pa ca) {c : Addr} {o : O} (hc : H c = none) : PL (put H c o) pa ca := h.keep fun a o' e => pt e (nf e hc)
def RW (H : AH) (a : Addr) (n : Nat) : Prop := ∃ l : List Tx,H a = some (.list (l.map V.str)) ∧ (∀ s ∈ l,s ∈ voc) ∧ l.length ≤ n
def looseL : List Tx := [[40],[41],[58],[59],[44],[46],[86,65,82],[65,82,82,65,89],[79,70],[55],[61],[82,69,67,79,82,68],[84],[73,78,84,69,71,69,82],[65],[86],[110,111,112,101]]
def typeL : List (List Tx) := [[[73,78,84,69,71,69,82]],[[84]],[[67,72,65,82]],[[86]],[[80]],[[65],[46],[84]],[[66,89,84,69]],[[83,69,84]],[[65],[46],[80]],[[66,79,79,76,69,65,78]],[[87]],[[120]],[[70]],[[110,111,112,101]],[[65],[46],[120]],[[65],[46],[110,111,112,101]],[[84,82,85,69]],[[65,66,83]],[[65]]]
theorem it_str {l : List Tx} {i : Nat} (h : i < l.length) (h2 : l.length ≤ 1000) : ∃ s ∈ l,It (l.map V.str) (i : Int) (.str s) := by
  refine ⟨l[i],List.getElem_mem h,⟨itemAt_nat ?_ (by omega)⟩⟩
  simp [h]
section
variable {sp : Sp} (hC : Calls sp) {H : AH} {Q : Post} {pa ca : Addr}
include hC
theorem c_named {f : Nat} (hf : f < 9) (k : ∀ s ∈ voc,Q (.str s) H) : sp .f_law_named [.int f] H Q := by
  refine hC _ _ [] _ _ rfl ?_
  have e1 : ((97 : Int) + (f : Int) % 26) = ((97 + f : Nat) : Int) := by omega
  have c1 : (0 : Int) ≤ 97 + (f : Int) % 26 ∧ 97 + (f : Int) % 26 ≤ 127 := ⟨by omega,by omega⟩
  have c2 : (0 : Int) ≤ (f : Int) ∧ (f : Int) ≤ 9 := ⟨by omega,by omega⟩
  have c3 : (0 : Int) < 26 := by decide
  simp only [Fn.body,Fn.params,rhoOf,List.cons_append,List.nil_append]
  (unfold b_law_named; walk_at "X")
  rw [e1]
  refine k _ ?_
  exact (show ∀ f < 9,[((97 + f : Nat) : Int).toNat] ++ [48 + ((f : Nat) : Int).toNat] ∈ voc by decide +kernel) f hf
theorem c_loose (hp : PL H pa ca) (k : ∀ s ∈ voc,∀ H',PL H' pa ca → KpX [pa,ca] H H' → Q (.str s) H') : sp .f_law_loose [.ref pa] H Q := by
  refine hC _ _ [] _ _ rfl ?_
  simp only [Fn.body,Fn.params,rhoOf,List.cons_append,List.nil_append]
  (unfold b_law_loose; walk_at "X")
  intro c hc
  have q1 := PL.new (o := .list (looseL.map V.str)) hp hc
  have q2 : put H c (.list (looseL.map V.str)) c = some (.list (looseL.map V.str)) := put_same
  have q3 : KpX [pa,ca] H (put H c (.list (looseL.map V.str))) := KpX.refl.putf hc
  have n1 : c ∉ [pa,ca] := by
    obtain ⟨_,_,_,a,b,_⟩ := hp
    simp [Ne.symm (nf a hc),Ne.symm (nf b hc)]
  change wpSs _ _ _ (put H c (.list (looseL.map V.str))) _
  generalize put H c (.list (looseL.map V.str)) = H1 at *
  walk_at "X"
  refine c_ltake (most := 20) hC q1 (by omega) (by omega) fun v H2 hv p2 k2 => ?_
  have g2 := k2 _ _ q2 n1
  walk_at "X"
  refine Brn.mk (fun e => ?_) fun e => ?_
  · obtain ⟨s,hs,hit⟩ := it_str (l := looseL) (i := v) (by have : looseL.length = 17 := rfl; omega) (by decide)
    walk_at "X"
    exact k s ((show ∀ s ∈ looseL,s ∈ voc by decide +kernel) s hs) _ p2 (q3.trans k2)
  · walk_at "X"
    refine c_ltake (most := 9) hC p2 (by omega) (by omega) fun v H3 hv p3 k3 => ?_
    walk_at "X"
    refine c_named hC hv fun s hs => ?_
    try walk_at "X"
    exact k s hs _ p3 (q3.trans (k2.trans k3))
omit hC in
theorem w_lists {ρ : Rho} : ∀ (ls : List (List Tx)) (H : AH) (Q : List V → AH → Prop),(∀ as H',as.length = ls.length → (∀ i (h : i < ls.length),∃ a,as[i]? = some (V.ref a) ∧ H a = none ∧ H' a = some (.list (ls[i].map V.str))) → (∀ a o,H a = some o → H' a = some o) → Q as H') →
    wpEs sp ρ (ls.map fun l => E.list (l.map E.str)) H Q
  | [],H,Q,k => by
    rw [List.map_nil,es_n]
    exact k [] H rfl (fun i h => absurd h (Nat.not_lt_zero _)) fun _ _ e => e
  | l :: ls,H,Q,k => by
    have hl : ∀ (l : List Tx) (H : AH) (Q : List V → AH → Prop),Q (l.map V.str) H → wpEs sp ρ (l.map E.str) H Q := by
      intro l
      induction l with
      | nil => intro H Q h; rw [List.map_nil,es_n]; exact h
      | cons x r ih => intro H Q h; rw [List.map_cons,es_c,e_str]; exact ih H _ h
    rw [List.map_cons,es_c,e_list]
    refine hl l H _ ?_
    intro c hc
    refine w_lists ls _ _ fun as H' hlen has hk => ?_
    refine k (.ref c :: as) H' (by simp [hlen]) (fun i h => ?_) fun a o e => hk a o (pt e (nf e hc))
    cases i with
    | zero => exact ⟨c,rfl,hc,hk c _ put_same⟩
    | succ i =>
      obtain ⟨a,b,d,e⟩ := has i (by simpa using h)
      exact ⟨a,b,(fresh_put d).1,e⟩
theorem c_of_type (hp : PL H pa ca) (k : ∀ a H',RW H' a 3 → H a = none → PL H' pa ca → KpX [pa,ca] H H' → Q (.ref a) H') : sp .f_law_of_type [.ref pa] H Q := by
  refine hC _ _ [] _ _ rfl ?_
  simp only [Fn.body,Fn.params,rhoOf,List.cons_append,List.nil_append,b_law_of_type,wpSs_cons,p_asg,e_list (es := [_,_,_,_,_,_,_,_,_,_,_,_,_,_,_,_,_,_,_])]
  refine w_lists typeL H _ fun as H1 hlen has hk => ?_
  intro c hc
  have p1 := PL.new (o := .list as) (hp.keep hk) hc
  have q2 : put H1 c (.list as) c = some (.list as) := put_same
  have q3 : KpX [pa,ca] H (put H1 c (.list as)) := fun a o e _ => pt (hk a o e) (nf (hk a o e) hc)
  have q4 : ∀ i (h : i < typeL.length),∃ a,as[i]? = some (V.ref a) ∧ H a = none ∧ put H1 c (.list as) a = some (.list (typeL[i].map V.str)) := fun i h => by
    obtain ⟨a,b,d,e⟩ := has i h; exact ⟨a,b,d,pt e (nf e hc)⟩
  have n1 : c ∉ [pa,ca] := by
    obtain ⟨_,_,_,a,b,_⟩ := hp
    simp [Ne.symm (nf (hk _ _ a) hc),Ne.symm (nf (hk _ _ b) hc)]
  have n2 : ∀ a,H a = none → a ∉ [pa,ca] := fun a ha => by
    obtain ⟨_,_,_,b,d,_⟩ := hp
    simp [Ne.symm (nf b ha),Ne.symm (nf d ha)]
  generalize put H1 c (.list as) = H2 at *
  walk_at "X"
  refine c_ltake (most := 29) hC p1 (by omega) (by omega) fun v H3 hv p3 k3 => ?_
  have tl : typeL.length = 19 := rfl
  have main : ∀ j : Nat,j < 19 → ∃ a,It as (j : Int) (.ref a) ∧ (∀ Q' : Post,Q' = Q → Q' (.ref a) H3) := fun j hj => by
    obtain ⟨a,b,d,e⟩ := q4 j (by omega)
    refine ⟨a,⟨itemAt_nat b (by omega)⟩,fun Q' eq => eq ▸ k a H3 ⟨typeL[j],k3 _ _ e (n2 a d),?_,?_⟩ d p3 (q3.trans k3)⟩
    · exact (show ∀ l ∈ typeL,∀ s ∈ l,s ∈ voc by decide +kernel) _ (List.getElem_mem _)
    · exact (show ∀ l ∈ typeL,l.length ≤ 3 by decide +kernel) _ (List.getElem_mem _)
  have g2 := k3 _ _ q2 n1
  walk_at "X"
  refine Brn.mk (fun e => ?_) fun e => ?_
  · obtain ⟨a,hit,z⟩ := main v (by omega)
    walk_at "X"
    exact z _ rfl
  · obtain ⟨a,hit,z⟩ := main (v - 19) (by omega)
    rw [show ((v - 19 : Nat) : Int) = (v : Int) - 19 by omega] at hit
    walk_at "X"
    exact z _ rfl
end
end
section

structure RX (H H2 : AH) (pa ca ra : Addr) (l : List Tx) (n : Nat) : Prop where
  h : H2 ra = some (.list (l.map V.str))
  v : ∀ s ∈ l,s ∈ voc
  n : l.length ≤ n
  f : H ra = none
  p : PL H2 pa ca
  k : KpX [pa,ca] H H2
  o : ra ∉ [pa,ca]
section
variable {H H2 H3 : AH} {pa ca ra : Addr} {l : List Tx} {n : Nat}
theorem PL.off (h : PL H pa ca) {a : Addr} (ha : H a = none) : a ∉ [pa,ca] := by
  obtain ⟨_,_,_,a,b,_⟩ := h
  simp [Ne.symm (nf a ha),Ne.symm (nf b ha)]
theorem RX.keep (r : RX H H2 pa ca ra l n) (p : PL H3 pa ca) (k : KpX [pa,ca] H2 H3) : RX H H3 pa ca ra l n := ⟨k _ _ r.h r.o,r.v,r.n,r.f,p,r.k.trans k,r.o⟩
theorem RX.new (r : RX H H2 pa ca ra l n) {c : Addr} {o : O} (hc : H2 c = none) : RX H (put H2 c o) pa ca ra l n :=
  ⟨pt r.h (nf r.h hc),r.v,r.n,r.f,r.p.new hc,fun a o e m => pt (r.k a o e m) (nf (r.k a o e m) hc),r.o⟩
theorem RX.ext (r : RX H H2 pa ca ra l n) {xs : List V} (ys : List Tx) (hx : xs = l.map V.str ++ ys.map V.str) (hv : ∀ s ∈ ys,s ∈ voc) {m : Nat} (hm : n + ys.length ≤ m) : RX H (put H2 ra (.list xs)) pa ca ra (l ++ ys) m := by
  refine ⟨by rw [put_same,hx,List.map_append],fun s hs => ?_,?_,r.f,?_,r.k.putf r.f,r.o⟩
  · rcases List.mem_append.mp hs with h | h
    · exact r.v s h
    · exact hv s h
  · have := r.n; simp; omega
  · obtain ⟨ns,a,b,p1,p2,p3⟩ := r.p
    have := r.o
    simp only [List.mem_cons,List.not_mem_nil,or_false,not_or] at this
    exact ⟨ns,a,b,pt p1 (Ne.symm this.1),pt p2 (Ne.symm this.2),p3⟩
theorem RX.mono (r : RX H H2 pa ca ra l n) {m : Nat} (h : n ≤ m) : RX H H2 pa ca ra l m := ⟨r.h,r.v,Nat.le_trans r.n h,r.f,r.p,r.k,r.o⟩
theorem RX.mk0 (hp : PL H pa ca) (p : PL H2 pa ca) (k : KpX [pa,ca] H H2) {c : Addr} (hc : H2 c = none) (l : List Tx) (hv : ∀ s ∈ l,s ∈ voc) (hn : l.length ≤ n) : RX H (put H2 c (.list (l.map V.str))) pa ca c l n :=
  ⟨put_same,hv,hn,k.fr hc (p.off hc),p.new hc,k.putf (k.fr hc (p.off hc)),p.off hc⟩
end
section
variable {sp : Sp} (hC : Calls sp) {H : AH} {Q : Post} {pa ca : Addr}
include hC
theorem l_part45 (hp : PL H pa ca) {ra : Addr} {l : List Tx} {H2 : AH} {ρ : Rho} (r : RX H H2 pa ca ra l 5) (r1 : ρ .n_pool = some (.ref pa)) (r2 : ρ .n_row = some (.ref ra)) (k : ∀ a H' l,RX H H' pa ca a l 12 → Q (.ref a) H') :
    wpSs sp [.forR .n_again (E.bin .sub (E.call .f_law_take [(E.loc .n_pool),(E.int 5)]) (E.int 2)) [.aug .n_row (E.list [(E.str [65,82,82,65,89]),(E.str [79,70])])],
      .ret (E.bin .add (E.loc .n_row) (E.call .f_law_of_type [(E.loc .n_pool)]))] ρ H2 (fun fl _ H' => Q (retOf fl) H') := by
  walk_at "X"
  refine c_ltake (most := 5) hC r.p (by omega) (by omega) fun v H3 hv p3 k3 => ?_
  have r3 := r.keep p3 k3
  have c1 : (-1000 : Int) ≤ (v : Int) - 2 ∧ (v : Int) - 2 ≤ 1000000 := ⟨by omega,by omega⟩
  walk_at "X"
  have main : ∀ (vs : List V) (l : List Tx) (n : Nat) (H4 : AH) (ρ : Rho),n + 2 * vs.length ≤ 9 → RX H H4 pa ca ra l n → ρ .n_pool = some (.ref pa) → ρ .n_row = some (.ref ra) →
      FL (fun _ => True) (asgB .n_again) (bodyB sp [.aug .n_row (E.list [(E.str [65,82,82,65,89]),(E.str [79,70])])]) vs ρ H4 (seqK sp [.ret (E.bin .add (E.loc .n_row) (E.call .f_law_of_type [(E.loc .n_pool)]))] fun fl _ H' => Q (retOf fl) H') ⟨⟩ := by
    intro vs
    induction vs with
    | nil =>
      intro l n H4 ρ hn r4 r1 r2
      refine fl_nil trivial ?_
      walk_at "X"
      refine c_of_type hC r4.p fun a H5 w5 f5 p5 k5 => ?_
      obtain ⟨l5,w1,w2,w3⟩ := w5
      have r5 := r4.keep p5 k5
      have h5 := r5.h
      have n5 := r5.n
      have hle : (l.map V.str).length + (l5.map V.str).length ≤ 1000000 := by simp at hn ⊢; omega
      walk_at "X"
      intro c hc
      have r6 := RX.mk0 (n := 12) (l := l ++ l5) (hp := hp) r5.p r5.k hc (fun s hs => (List.mem_append.mp hs).elim (r5.v s) (w2 s)) (by simp at hn ⊢; omega)
      rw [List.map_append] at r6
      exact k c _ _ r6
    | cons x vs ih =>
      intro l n H4 ρ hn r4 r1 r2
      simp only [List.length_cons] at hn
      refine fl_cons trivial rfl ?_
      walk_at "X"
      intro c hc
      have r5 := r4.new (o := .list [.str [65,82,82,65,89],.str [79,70]]) hc
      have h5 := r5.h
      have g5 : put H4 c (.list [.str [65,82,82,65,89],.str [79,70]]) c = some (.list [.str [65,82,82,65,89],.str [79,70]]) := put_same
      have cnd : ra ≠ c ∧ (l.map V.str).length + [V.str [65,82,82,65,89],V.str [79,70]].length ≤ 1000000 := ⟨nf r4.h hc,by have := r4.n; simp; omega⟩
      walk_at "X"
      exact ih _ (n + 2) _ _ (by omega) (r5.ext [[65,82,82,65,89],[79,70]] (by rfl) (by decide +kernel) (by simp)) r1 (by simp only [put_apply,if_true])
  exact main _ l 5 H3 ρ (by simp; omega) r3 r1 r2
theorem c_part (hp : PL H pa ca) (k : ∀ a H' l,RX H H' pa ca a l 12 → Q (.ref a) H') : sp .f_law_part [.ref pa] H Q := by
  refine hC _ _ [] _ _ rfl ?_
  have p2 : ∀ (ra : Addr) (l : List Tx) (H2 : AH) (ρ : Rho),RX H H2 pa ca ra l 3 → ρ .n_pool = some (.ref pa) → ρ .n_row = some (.ref ra) → wpSs sp (b_law_part.drop 2) ρ H2 (fun fl _ H' => Q (retOf fl) H') := by
    intro ra l H2 ρ r2 q1 q2
    have h2 := r2.h
    unfold b_law_part
    simp only [List.drop]
    walk_at "X"
    refine c_ltake (most := 9) hC r2.p (by omega) (by omega) fun v H3 hv p3 k3 => ?_
    walk_at "X"
    refine c_named hC hv fun s hs => ?_
    have r3 := r2.keep p3 k3
    have h3 := r3.h
    walk_at "X"
    intro c hc
    have r4 := r3.new (o := .list [.str s,.str [58]]) hc
    have h4 := r4.h
    have g4 : put H3 c (.list [.str s,.str [58]]) c = some (.list [.str s,.str [58]]) := put_same
    have cnd : ra ≠ c ∧ (l.map V.str).length + [V.str s,V.str [58]].length ≤ 1000000 := ⟨nf r3.h hc,by have := r3.n; simp; omega⟩
    have z := l_part45 hC hp (Q := Q) (ρ := put ρ .n_row (.ref ra)) (r4.ext [s,[58]] (by rfl) (fun x hx => by
      rcases List.mem_cons.mp hx with rfl | hx
      · exact hs
      · rw [List.mem_singleton.mp hx]; decide +kernel) (by simp)) q1 rfl k
    walk_at "Z"
    exact z
  have p1 : ∀ (ra : Addr) (l : List Tx) (H2 : AH) (ρ : Rho),RX H H2 pa ca ra l 1 → ρ .n_pool = some (.ref pa) → ρ .n_row = some (.ref ra) → wpSs sp (b_law_part.drop 1) ρ H2 (fun fl _ H' => Q (retOf fl) H') := by
    intro ra l H2 ρ r2 q1 q2
    have h2 := r2.h
    unfold b_law_part at p2 ⊢
    simp only [List.drop] at p2 ⊢
    walk_at "X"
    refine c_ltake (most := 2) hC r2.p (by omega) (by omega) fun v H3 hv p3 k3 => ?_
    have r3 := r2.keep p3 k3
    have h3 := r3.h
    walk_at "X"
    refine Brn.mk (fun e => ?_) fun e => ?_
    · walk_at "X"
      refine c_ltake (most := 9) hC r3.p (by omega) (by omega) fun v H4 hv p4 k4 => ?_
      walk_at "X"
      refine c_named hC hv fun s hs => ?_
      have r4 := r3.keep p4 k4
      have h4 := r4.h
      walk_at "X"
      intro c hc
      have r5 := r4.new (o := .list [.str s,.str [44]]) hc
      have h5 := r5.h
      have g5 : put H4 c (.list [.str s,.str [44]]) c = some (.list [.str s,.str [44]]) := put_same
      have cnd : ra ≠ c ∧ (l.map V.str).length + [V.str s,V.str [44]].length ≤ 1000000 := ⟨nf r4.h hc,by have := r4.n; simp; omega⟩
      have z := p2 ra (l ++ [s,[44]]) _ (put ρ .n_row (.ref ra)) (r5.ext [s,[44]] rfl (fun x hx => by
        rcases List.mem_cons.mp hx with rfl | hx
        · exact hs
        · rw [List.mem_singleton.mp hx]; decide +kernel) (by simp)) q1 rfl
      walk_at "Z"
      exact z
    · have z := p2 ra l H3 ρ (r3.mono (by omega)) q1 q2
      walk_at "Z"
      exact z
  unfold b_law_part at p1
  simp only [List.drop] at p1
  simp only [Fn.body,Fn.params,rhoOf,List.cons_append,List.nil_append]
  (unfold b_law_part; walk_at "X")
  refine c_ltake (most := 3) hC hp (by omega) (by omega) fun v H1 hv p1' k1 => ?_
  walk_at "X"
  refine Brn.mk (fun e => ?_) fun e => ?_
  · walk_at "X"
    intro c hc
    have z := p1 c [[86,65,82]] _ (put (put (fun _ => none) .n_pool (.ref pa)) .n_row (.ref c)) (RX.mk0 hp p1' k1 hc [[86,65,82]] (by decide +kernel) (by simp)) rfl rfl
    walk_at "Z"
    exact z
  · walk_at "X"
    intro c hc
    have z := p1 c [] _ (put (put (fun _ => none) .n_pool (.ref pa)) .n_row (.ref c)) (RX.mk0 hp p1' k1 hc [] (by simp) (by simp)) rfl rfl
    walk_at "Z"
    exact z
end
end
section
theorem cut_map {α β : Type} (f : α → β) (lo hi : Option Int) (l : List α) : cut lo hi (l.map f) = (cut lo hi l).map f := by
  simp only [cut,List.length_map,List.map_drop,List.map_take]
theorem cut_sub {α : Type} {lo hi : Option Int} {l : List α} {x : α} (h : x ∈ cut lo hi l) : x ∈ l := List.mem_of_mem_take (List.mem_of_mem_drop h)
theorem ltn {α : Type} {l : List α} {a b : Nat} : (l.take a).length + (l.drop b).length ≤ l.length + (a - b) := by simp; omega
section
variable {sp : Sp} (hC : Calls sp) {H : AH} {Q : Post} {pa ca : Addr}
include hC
theorem c_formal (hp : PL H pa ca) (k : ∀ a H' l,RX H H' pa ca a l 40 → Q (.ref a) H') : sp .f_law_formal [.ref pa] H Q := by
  refine hC _ _ [] _ _ rfl ?_
  have tail : ∀ (ra : Addr) (l : List Tx) (H2 : AH) (ρ : Rho),RX H H2 pa ca ra l 30 → ρ .n_pool = some (.ref pa) → ρ .n_row = some (.ref ra) → wpSs sp (b_law_formal.drop 2) ρ H2 (fun fl _ H' => Q (retOf fl) H') := by
    intro ra l H2 ρ r2 q1 q2
    have h2 := r2.h
    have l2 : (l.map V.str).length < 1000000 := by have := r2.n; simp; omega
    unfold b_law_formal
    simp only [List.drop]
    walk_at "X"
    have r3 := r2.ext (m := 31) [[41]] rfl (by decide +kernel) (by simp)
    refine c_ltake (most := 3) hC r3.p (by omega) (by omega) fun v H3 hv p3 k3 => ?_
    have r4 := r3.keep p3 k3
    have h4 := r4.h
    have l4 : ((l ++ [[41]]).map V.str).length < 1000000 := by have := r4.n; simp at this ⊢; omega
    walk_at "X"
    refine Brn.mk (fun e => ?_) fun e => ?_
    · have r5 := r4.ext (m := 32) [[58]] rfl (by decide +kernel) (by simp)
      have h5 := r5.h
      walk_at "X"
      refine c_of_type hC r5.p fun a H5 w5 f5 p5 k5 => ?_
      obtain ⟨l5,w1,w2,w3⟩ := w5
      have r6 := r5.keep p5 k5
      have h6 := r6.h
      have n6 := r6.n
      have cnd : ra ≠ a ∧ ((l ++ [[41]] ++ [[58]]).map V.str).length + (l5.map V.str).length ≤ 1000000 := ⟨nf h5 f5,by simp at n6 ⊢; omega⟩
      walk_at "X"
      exact k ra _ _ (r6.ext l5 rfl w2 (by omega))
    · walk_at "X"
      exact k ra _ _ (r4.mono (by omega))
  have loop : ∀ (is : List Int) (ra : Addr) (l : List Tx) (n : Nat) (H2 : AH) (ρ : Rho),n + 13 * is.length ≤ 30 → RX H H2 pa ca ra l n → ρ .n_pool = some (.ref pa) → ρ .n_row = some (.ref ra) →
      FL (fun _ => True) (asgB .n_each) (bodyB sp [.ifs (E.cmp .gt (E.loc .n_each) (E.int 0)) [.expr (E.append (E.loc .n_row) (E.str [59]))] [],.aug .n_row (E.call .f_law_part [(E.loc .n_pool)])]) (is.map V.int) ρ H2 (seqK sp (b_law_formal.drop 2) fun fl _ H' => Q (retOf fl) H') ⟨⟩ := by
    intro is
    induction is with
    | nil =>
      intro ra l n H2 ρ hn r2 q1 q2
      exact fl_nil trivial (tail ra l H2 ρ (r2.mono (by simp at hn; omega)) q1 q2)
    | cons i is ih =>
      intro ra l n H2 ρ hn r2 q1 q2
      simp only [List.length_cons] at hn
      have step : ∀ (l : List Tx) (H3 : AH) (ρ' : Rho),RX H H3 pa ca ra l (n + 1) → ρ' .n_pool = some (.ref pa) → ρ' .n_row = some (.ref ra) → wpSs sp [.aug .n_row (E.call .f_law_part [(E.loc .n_pool)])] ρ' H3
          (flK (fun _ => True) (asgB .n_each) (bodyB sp [.ifs (E.cmp .gt (E.loc .n_each) (E.int 0)) [.expr (E.append (E.loc .n_row) (E.str [59]))] [],.aug .n_row (E.call .f_law_part [(E.loc .n_pool)])]) (is.map V.int) (seqK sp (b_law_formal.drop 2) fun fl _ H' => Q (retOf fl) H')) := by
        intro l H3 ρ' r3 q1 q2
        walk_at "X"
        refine c_part hC r3.p fun a H4 l4 r4 => ?_
        have r5 := r3.keep r4.p r4.k
        have h5 := r5.h
        have h4 := r4.h
        have cnd : ra ≠ a ∧ (l.map V.str).length + (l4.map V.str).length ≤ 1000000 := ⟨nf r3.h r4.f,by have := r4.n; have := r5.n; simp; omega⟩
        have n4 := r4.n
        walk_at "X"
        exact ih ra _ (n + 13) _ _ (by omega) (r5.ext l4 rfl r4.v (by omega)) q1 (by simp only [put_apply,if_true])
      refine fl_cons trivial rfl ?_
      have h2 := r2.h
      have l2 : (l.map V.str).length < 1000000 := by have := r2.n; simp; omega
      walk_at "X"
      refine Brn.mk (fun e => ?_) fun e => ?_
      · have z := step (l ++ [[59]]) _ (put ρ .n_each (.int i)) (r2.ext [[59]] rfl (by decide +kernel) (by simp)) q1 q2
        walk_at "Z"
        exact z
      · have z := step l H2 (put ρ .n_each (.int i)) (r2.mono (by omega)) q1 q2
        walk_at "Z"
        exact z
  unfold b_law_formal at loop
  simp only [List.drop] at loop
  simp only [Fn.body,Fn.params,rhoOf,List.cons_append,List.nil_append]
  (unfold b_law_formal; walk_at "X")
  intro c hc
  have r1 := RX.mk0 hp hp .refl hc (n := 1) [[40]] (by decide +kernel) (by simp)
  have p1 := r1.p
  have m3 : (0 : Int) < 3 := by decide
  walk_at "X"
  refine c_ltake (most := 3) hC p1 (by omega) (by omega) fun v H3 hv p3 k3 => ?_
  have r3 := r1.keep p3 k3
  have c1 : (-1000 : Int) ≤ (1 + (v : Int)) % 3 ∧ (1 + (v : Int)) % 3 ≤ 1000000 := ⟨by omega,by omega⟩
  walk_at "X"
  have z := loop ((List.range ((1 + (v : Int)) % 3).toNat).map fun i : Nat => (i : Int)) c _ 1 H3 (put (put (fun _ => none) .n_pool (.ref pa)) .n_row (.ref c)) (by simp; omega) r3 rfl rfl
  rw [List.map_map] at z
  exact z
theorem c_lrow {al : Bool} (hp : PL H pa ca) (k : ∀ a H' l,RX H H' pa ca a l 43 → Q (.ref a) H') : sp .f_law_row [.ref pa,.bool al] H Q := by
  refine hC _ _ [] _ _ rfl ?_
  have tail : ∀ (ra : Addr) (l : List Tx) (H2 : AH) (ρ : Rho),RX H H2 pa ca ra l 42 → ρ .n_pool = some (.ref pa) → ρ .n_row = some (.ref ra) → wpSs sp (b_law_row.drop 2) ρ H2 (fun fl _ H' => Q (retOf fl) H') := by
    intro ra l H2 ρ r2 q1 q2
    unfold b_law_row
    simp only [List.drop]
    walk_at "X"
    refine c_ltake (most := 2) hC r2.p (by omega) (by omega) fun v H3 hv p3 k3 => ?_
    have r3 := r2.keep p3 k3
    have h3 := r3.h
    walk_at "X"
    refine Brn.mk (fun e => ?_) fun e => ?_
    · walk_at "X"
      refine c_loose hC r3.p fun s hs H4 p4 k4 => ?_
      have r4 := r3.keep p4 k4
      have h4 := r4.h
      have l4 : (l.map V.str).length < 1000000 := by have := r4.n; simp; omega
      walk_at "X"
      exact k ra _ _ (r4.ext [s] rfl (fun x hx => by rw [List.mem_singleton.mp hx]; exact hs) (by simp))
    · walk_at "X"
      exact k ra _ _ (r3.mono (by omega))
  have loop : ∀ (is : List V) (ra : Addr) (l : List Tx) (n : Nat) (H2 : AH) (ρ : Rho),n + is.length ≤ 42 → RX H H2 pa ca ra l n → ρ .n_pool = some (.ref pa) → ρ .n_row = some (.ref ra) →
      FL (fun _ => True) (asgB .n_each) (bodyB sp [.asg .n_deed (E.call .f_law_take [(E.loc .n_pool),(E.int 3)]),.asg .n_spot (E.call .f_law_take [(E.loc .n_pool),(E.bin .add (E.bi .b_len [(E.loc .n_row)]) (E.int 1))]),.asg .n_more (E.ite (E.cmp .eq (E.loc .n_deed) (E.int 0)) (E.list []) (E.list [(E.call .f_law_loose [(E.loc .n_pool)])])),.asg .n_row (E.bin .add (E.bin .add (E.slice (E.loc .n_row) none (some (E.loc .n_spot))) (E.loc .n_more)) (E.slice (E.loc .n_row) (some (E.ite (E.cmp .eq (E.loc .n_deed) (E.int 1)) (E.loc .n_spot) (E.bin .add (E.loc .n_spot) (E.int 1)))) none))]) is ρ H2 (seqK sp (b_law_row.drop 2) fun fl _ H' => Q (retOf fl) H') ⟨⟩ := by
    intro is
    induction is with
    | nil =>
      intro ra l n H2 ρ hn r2 q1 q2
      exact fl_nil trivial (tail ra l H2 ρ (r2.mono (by simp at hn; omega)) q1 q2)
    | cons i is ih =>
      intro ra l n H2 ρ hn r2 q1 q2
      simp only [List.length_cons] at hn
      refine fl_cons trivial rfl ?_
      walk_at "X"
      refine c_ltake (most := 3) hC r2.p (by omega) (by omega) fun deed H3 hv p3 k3 => ?_
      have r3 := r2.keep p3 k3
      have h3 := r3.h
      have n3 := r3.n
      have ll : (l.map V.str).length ≤ 10000000 := by simp; omega
      walk_at "X"
      have er : ((l.map V.str).length : Int) + 1 = ((l.length + 1 : Nat) : Int) := by simp
      rw [er]
      refine c_ltake (most := l.length + 1) hC r3.p (by omega) (by omega) fun spot H4 hv2 p4 k4 => ?_
      have r4 := r3.keep p4 k4
      walk_at "X"
      have fin : ∀ (ra' mo : Addr) (ms : List Tx) (H5 : AH) (ρ' : Rho),RX H H5 pa ca ra l n → H5 mo = some (.list (ms.map V.str)) → (∀ s ∈ ms,s ∈ voc) → ms.length ≤ 1 → (deed = 0 → ms = []) → ρ' .n_pool = some (.ref pa) → ρ' .n_row = some (.ref ra) → ρ' .n_deed = some (.int deed) → ρ' .n_spot = some (.int spot) → ρ' .n_more = some (.ref mo) →
          wpSs sp [.asg .n_row (E.bin .add (E.bin .add (E.slice (E.loc .n_row) none (some (E.loc .n_spot))) (E.loc .n_more)) (E.slice (E.loc .n_row) (some (E.ite (E.cmp .eq (E.loc .n_deed) (E.int 1)) (E.loc .n_spot) (E.bin .add (E.loc .n_spot) (E.int 1)))) none))] ρ' H5
          (flK (fun _ => True) (asgB .n_each) (bodyB sp [.asg .n_deed (E.call .f_law_take [(E.loc .n_pool),(E.int 3)]),.asg .n_spot (E.call .f_law_take [(E.loc .n_pool),(E.bin .add (E.bi .b_len [(E.loc .n_row)]) (E.int 1))]),.asg .n_more (E.ite (E.cmp .eq (E.loc .n_deed) (E.int 0)) (E.list []) (E.list [(E.call .f_law_loose [(E.loc .n_pool)])])),.asg .n_row (E.bin .add (E.bin .add (E.slice (E.loc .n_row) none (some (E.loc .n_spot))) (E.loc .n_more)) (E.slice (E.loc .n_row) (some (E.ite (E.cmp .eq (E.loc .n_deed) (E.int 1)) (E.loc .n_spot) (E.bin .add (E.loc .n_spot) (E.int 1)))) none))]) is (seqK sp (b_law_row.drop 2) fun fl _ H' => Q (retOf fl) H')) := by
        intro ra' mo ms H5 ρ' r5 hmo hms hml hm0 s1 s2 s3 s4 s5
        have h5 := r5.h
        have c1 : okB none ∧ okB (some (spot : Int)) ∧ (l.map V.str).length ≤ 1000000 := ⟨trivial,⟨by omega,by omega⟩,by simp; omega⟩
        walk_at "X"
        intro a1 ha1
        have r6 := r5.new (o := .list (cut none (some (spot : Int)) (l.map V.str))) ha1
        have g1 : put H5 a1 (.list (cut none (some (spot : Int)) (l.map V.str))) a1 = some (.list (cut none (some (spot : Int)) (l.map V.str))) := put_same
        have g2 := pt (x := .list (cut none (some (spot : Int)) (l.map V.str))) hmo (nf hmo ha1)
        have c2 : (cut none (some (spot : Int)) (l.map V.str)).length + (ms.map V.str).length ≤ 1000000 := by simp [cut]; omega
        have h6 := r6.h
        generalize put H5 a1 (.list (cut none (some (spot : Int)) (l.map V.str))) = H6 at *
        walk_at "X"
        intro a2 ha2
        have r7 := r6.new (o := .list (cut none (some (spot : Int)) (l.map V.str) ++ ms.map V.str)) ha2
        have g3 : put H6 a2 (.list (cut none (some (spot : Int)) (l.map V.str) ++ ms.map V.str)) a2 = some (.list (cut none (some (spot : Int)) (l.map V.str) ++ ms.map V.str)) := put_same
        have h7 := r7.h
        generalize put H6 a2 (.list (cut none (some (spot : Int)) (l.map V.str) ++ ms.map V.str)) = H7 at *
        have last : ∀ (b : Nat),spot ≤ b → b ≤ spot + 1 → (deed ≠ 1 → b = spot + 1) → wpE sp ρ' (.slice (.loc .n_row) (some (.int (b : Int))) none) H7 (fun y H2 => binV BOp.add (V.ref a2) y H2 fun v H1 =>
            flK (fun _ => True) (asgB .n_each) (bodyB sp [.asg .n_deed (E.call .f_law_take [(E.loc .n_pool),(E.int 3)]),.asg .n_spot (E.call .f_law_take [(E.loc .n_pool),(E.bin .add (E.bi .b_len [(E.loc .n_row)]) (E.int 1))]),.asg .n_more (E.ite (E.cmp .eq (E.loc .n_deed) (E.int 0)) (E.list []) (E.list [(E.call .f_law_loose [(E.loc .n_pool)])])),.asg .n_row (E.bin .add (E.bin .add (E.slice (E.loc .n_row) none (some (E.loc .n_spot))) (E.loc .n_more)) (E.slice (E.loc .n_row) (some (E.ite (E.cmp .eq (E.loc .n_deed) (E.int 1)) (E.loc .n_spot) (E.bin .add (E.loc .n_spot) (E.int 1)))) none))]) is (seqK sp (b_law_row.drop 2) fun fl _ H' => Q (retOf fl) H') .next (put ρ' .n_row v) H1) := by
          intro b hb hb2 hb3
          have c3 : okB (some (b : Int)) ∧ okB none ∧ (l.map V.str).length ≤ 1000000 := ⟨⟨by omega,by omega⟩,trivial,by simp; omega⟩
          walk_at "X"
          intro a3 ha3
          have r8 := r7.new (o := .list (cut (some (b : Int)) none (l.map V.str))) ha3
          have g4 := pt (x := .list (cut (some (b : Int)) none (l.map V.str))) g3 (nf g3 ha3)
          have g5 : put H7 a3 (.list (cut (some (b : Int)) none (l.map V.str))) a3 = some (.list (cut (some (b : Int)) none (l.map V.str))) := put_same
          have c4 : (cut none (some (spot : Int)) (l.map V.str) ++ ms.map V.str).length + (cut (some (b : Int)) none (l.map V.str)).length ≤ 1000000 := by simp [cut]; omega
          generalize put H7 a3 (.list (cut (some (b : Int)) none (l.map V.str))) = H8 at *
          walk_at "X"
          intro a4 ha4
          try walk_at "X"
          have e : cut none (some (spot : Int)) (l.map V.str) ++ ms.map V.str ++ cut (some (b : Int)) none (l.map V.str) = ((cut none (some (spot : Int)) l ++ ms) ++ cut (some (b : Int)) none l).map V.str := by
            rw [cut_map,cut_map]; simp
          rw [e]
          refine ih a4 _ (n + 1) _ _ (by omega) (RX.mk0 hp r8.p r8.k ha4 _ (fun s hs => ?_) ?_) s1 rfl
          · rcases List.mem_append.mp hs with h | h
            · rcases List.mem_append.mp h with h | h
              · exact r8.v s (cut_sub h)
              · exact hms s h
            · exact r8.v s (cut_sub h)
          · have := r8.n; simp [cut]; omega
        walk_at "X"
        refine Brn.mk (fun e => ?_) fun e => ?_
        · have z := last spot (by omega) (by omega) (by omega)
          walk_at "Z"
          exact z
        · have z := last (spot + 1) (by omega) (by omega) (by omega)
          have e2 : ((spot + 1 : Nat) : Int) = (spot : Int) + 1 := by omega
          rw [e2] at z
          walk_at "Z"
          exact z
      refine Brn.mk (fun e => ?_) fun e => ?_
      · walk_at "X"
        intro c hc
        have r5 := r4.new (o := .list []) hc
        have z := fin c c [] _ (put (put (put (put ρ .n_each i) .n_deed (.int deed)) .n_spot (.int spot)) .n_more (.ref c)) r5 put_same (by simp) (by simp) (fun _ => rfl) q1 q2 rfl rfl rfl
        generalize put H4 c (.list []) = H5 at *
        walk_at "Z"
        exact z
      · walk_at "X"
        refine c_loose hC r4.p fun s hs H5 p5 k5 => ?_
        have r5 := r4.keep p5 k5
        walk_at "X"
        intro c hc
        have r6 := r5.new (o := .list [.str s]) hc
        have z := fin c c [s] _ (put (put (put (put ρ .n_each i) .n_deed (.int deed)) .n_spot (.int spot)) .n_more (.ref c)) r6 put_same (fun x hx => by rw [List.mem_singleton.mp hx]; exact hs) (by simp) (fun z => by omega) q1 q2 rfl rfl rfl
        generalize put H5 c (.list [.str s]) = H6 at *
        walk_at "Z"
        exact z
  have mid : ∀ (ra : Addr) (l : List Tx) (H2 : AH) (ρ : Rho),RX H H2 pa ca ra l 40 → ρ .n_pool = some (.ref pa) → ρ .n_row = some (.ref ra) → wpSs sp (b_law_row.drop 1) ρ H2 (fun fl _ H' => Q (retOf fl) H') := by
    intro ra l H2 ρ r2 q1 q2
    unfold b_law_row at loop ⊢
    simp only [List.drop] at loop ⊢
    walk_at "X"
    refine c_ltake (most := 3) hC r2.p (by omega) (by omega) fun v H3 hv p3 k3 => ?_
    have r3 := r2.keep p3 k3
    have c1 : (-1000 : Int) ≤ (v : Int) ∧ (v : Int) ≤ 1000000 := ⟨by omega,by omega⟩
    walk_at "X"
    exact loop _ ra l 40 H3 ρ (by simp; omega) r3 q1 q2
  have lo : ∀ (is : List V) (ra : Addr) (l : List Tx) (n : Nat) (H2 : AH) (ρ : Rho) (K : SPost),(∀ ra l H2 ρ,RX H H2 pa ca ra l 40 → ρ .n_pool = some (.ref pa) → ρ .n_row = some (.ref ra) → K .next ρ H2) → n + is.length ≤ 40 → RX H H2 pa ca ra l n → ρ .n_pool = some (.ref pa) → ρ .n_row = some (.ref ra) →
      FL (fun _ => True) (asgB .n_each) (bodyB sp [.expr (E.append (E.loc .n_row) (E.call .f_law_loose [(E.loc .n_pool)]))]) is ρ H2 K ⟨⟩ := by
    intro is
    induction is with
    | nil =>
      intro ra l n H2 ρ K hK hn r2 q1 q2
      exact fl_nil trivial (hK ra l H2 ρ (r2.mono (by simp at hn; omega)) q1 q2)
    | cons i is ih =>
      intro ra l n H2 ρ K hK hn r2 q1 q2
      simp only [List.length_cons] at hn
      refine fl_cons trivial rfl ?_
      have h2 := r2.h
      walk_at "X"
      refine c_loose hC r2.p fun s hs H4 p4 k4 => ?_
      have r4 := r2.keep p4 k4
      have h4 := r4.h
      have l4 : (l.map V.str).length < 1000000 := by have := r4.n; simp; omega
      walk_at "X"
      exact ih ra _ (n + 1) _ _ K hK (by omega) (r4.ext [s] rfl (fun x hx => by rw [List.mem_singleton.mp hx]; exact hs) (by simp)) q1 q2
  unfold b_law_row at mid
  simp only [List.drop] at mid
  simp only [Fn.body,Fn.params,rhoOf,List.cons_append,List.nil_append]
  (unfold b_law_row; walk_at "X")
  refine Brn.mk (fun e => ?_) fun e => ?_
  · walk_at "X"
    refine c_part hC hp fun a H2 l r2 => ?_
    have z := mid a l H2 (put (put (put (fun _ => none) .n_alone (.bool al)) .n_pool (.ref pa)) .n_row (.ref a)) (r2.mono (by omega)) rfl rfl
    walk_at "Z"
    exact z
  · walk_at "X"
    refine c_ltake (most := 4) hC hp (by omega) (by omega) fun v H2 hv p2 k2 => ?_
    walk_at "X"
    refine Brn.mk (fun e => ?_) fun e => ?_
    · walk_at "X"
      intro c hc
      have r3 := RX.mk0 (n := 1) hp p2 k2 hc [[40]] (by decide +kernel) (by simp)
      have p3 := r3.p
      walk_at "X"
      refine c_ltake (most := 10) hC p3 (by omega) (by omega) fun v H4 hv p4 k4 => ?_
      have r4 := r3.keep p4 k4
      have c1 : (-1000 : Int) ≤ (v : Int) ∧ (v : Int) ≤ 1000000 := ⟨by omega,by omega⟩
      walk_at "X"
      refine lo _ c _ 1 H4 _ _ (fun ra l H2 ρ r q1 q2 => ?_) (by simp; omega) r4 rfl rfl
      have z := mid ra l H2 ρ r q1 q2
      walk_at "Z"
      exact z
    · walk_at "X"
      refine c_formal hC p2 fun a H3 l r3 => ?_
      have r3' : RX H H3 pa ca a l 40 := ⟨r3.h,r3.v,r3.n,k2.fr r3.f r3.o,r3.p,k2.trans r3.k,r3.o⟩
      have z := mid a l H3 (put (put (put (fun _ => none) .n_alone (.bool al)) .n_pool (.ref pa)) .n_row (.ref a)) r3' rfl rfl
      walk_at "Z"
      exact z
end
end
section
def punct : List Tx := [[40],[41],[58],[59],[44]]
def Wr (s : Tx) (R : List Row) : Prop := ∀ (u : Tx) (q : List Row),u.take 1 ∈ endL → q ≠ [] → Lex (s ++ u) s.length q → Lex (s ++ u) 0 (R ++ q)
theorem Wr.nil : Wr [] [] := fun _ _ _ _ h => h
theorem Wr.step {s : Tx} {R : List Row} (h : Wr s R) {g sign : Tx} (hg : g ∈ gaps) (hs : sign ∈ voc) (hgs : g = [] → sign ∈ punct) : Wr (s ++ g ++ sign) (R ++ [(sortOf sign,sign,(s ++ g).length)]) := by
  intro u q hu hq hL
  have hsv := List.all_eq_true.mp sort_not _ hs
  simp only [Bool.and_eq_true,decide_eq_true_eq] at hsv
  have e1 : s ++ g ++ sign ++ u = s ++ (g ++ (sign ++ u)) := by simp
  rw [e1] at hL ⊢
  rw [List.append_assoc]
  refine h (g ++ (sign ++ u)) _ ?_ (by simp) ?_
  · by_cases e : g = []
    · have := hgs e
      subst e
      have hp := List.all_eq_true.mp (show punct.all (fun p => decide (p.length = 1) && decide (p ∈ endL)) = true by decide +kernel) _ this
      simp only [Bool.and_eq_true,decide_eq_true_eq] at hp
      rw [List.nil_append]
      cases sign with
      | nil => exact absurd hp.1 (by simp)
      | cons x r =>
        have : r = [] := by simpa using hp.1
        subst this; exact hp.2
    · have hp := List.all_eq_true.mp (show gaps.all (fun p => decide (p = []) || decide (p.take 1 ∈ endL)) = true by decide +kernel) _ hg
      simp only [Bool.or_eq_true,decide_eq_true_eq] at hp
      rcases hp with hp | hp
      · exact absurd hp e
      · cases g with
        | nil => exact absurd rfl e
        | cons x r => exact hp
  · refine ⟨⟨g,hg,by simp,?_⟩,by simp,.inr ⟨hs,rfl,u,?_,hu⟩,fun z => absurd z (by simpa using hq),fun z => absurd z hsv.1.1,?_⟩
    · show (s ++ (g ++ (sign ++ u))).drop s.length = g ++ (s ++ (g ++ (sign ++ u))).drop (s ++ g).length
      rw [List.drop_left,← List.append_assoc s g,List.drop_left]
    · show (s ++ (g ++ (sign ++ u))).drop (s ++ g).length = sign ++ u
      rw [← List.append_assoc s g,List.drop_left]
    · have : (s ++ g).length + sign.length = (s ++ g ++ sign).length := by simp; omega
      show Lex _ ((s ++ g).length + sign.length) q
      rw [this]; exact hL
theorem Wr.fin {s : Tx} {R : List Row} (h : Wr s R) : Lex s 0 (R ++ [([101,111,102],[],s.length)]) := by
  have := h [] [([101,111,102],[],s.length)] (by decide) (by simp) ⟨⟨[],by decide,by simp,by simp⟩,by simp,.inl ⟨rfl,by simp⟩,fun _ => rfl,fun _ => rfl,trivial⟩
  simpa using this
theorem Lex.wf {src : Tx} (hl : src.length ≤ 700000) : ∀ {R : List Row} {p : Nat},Lex src p R → Wf R
  | [],_,_ => trivial
  | r :: q,p,h => by
    refine ⟨h.2.2.2.1,fun e => ?_,Nat.le_trans h.2.1 hl,(Lex.rowP (rs := r :: q) (p := p) h r List.mem_cons_self).2,Lex.wf hl h.2.2.2.2.2⟩
    rcases h.2.2.1 with ⟨e1,-⟩ | ⟨e1,e2,-⟩
    · rw [e1] at e; cases e
    · rw [e] at e2
      have := List.all_eq_true.mp (show voc.all (fun s => decide (sortOf s ≠ [105,100,101,110,116]) || decide (s ∈ idV)) = true by decide +kernel) _ e1
      simp only [Bool.or_eq_true,decide_eq_true_eq] at this
      rcases this with h | h
      · exact absurd e2.symm h
      · exact h
section
variable {sp : Sp} (hC : Calls sp) {H : AH} {Q : Post} {pa ca : Addr}
include hC
theorem c_written {ra : Addr} {l : List Tx} (hp : PL H pa ca) (hra : H ra = some (.list (l.map V.str))) (hv : ∀ s ∈ l,s ∈ voc) (hl : l.length ≤ 43) (ho : ra ∉ [pa,ca])
    (k : ∀ said R rr H',H rr = none → H' rr = some (.list (R.map rowV)) → Lex said 0 R → R ≠ [] → R.length ≤ 100 → said.length ≤ 10000 → PL H' pa ca → KpX [pa,ca] H H' → Q (.tup [.str said,.ref rr]) H') : sp .f_law_written [.ref pa,.ref ra] H Q := by
  refine hC _ _ [] _ _ rfl ?_
  have main : ∀ (l2 : List Tx) (s : Tx) (R : List Row) (rr : Addr) (rem : Int) (H2 : AH) (ρ : Rho) (bq : Bq _),(∀ s ∈ l2,s ∈ voc) → R.length + l2.length ≤ 43 → s.length + 30 * l2.length ≤ 1290 → Wr s R → PL H2 pa ca → KpX [pa,ca] H H2 → H rr = none → H2 rr = some (.list (R.map rowV)) →
      ρ .n_pool = some (.ref pa) → ρ .n_said = some (.str s) → ρ .n_rows = some (.ref rr) → ρ .n_remarks = some (.int rem) →
      FL (srcB (.ref ra) (l.map V.str)) (asgB .n_sign) (bodyB sp [.asg .n_which (E.call .f_law_take [(E.loc .n_pool),(E.int 5)]),.aug .n_remarks (E.ite (E.cmp .eq (E.loc .n_which) (E.int 3)) (E.int 1) (E.int 0)),.asg .n_gap (E.idx (E.list [(E.str [32]),(E.str []),(E.str [10]),(E.str [32,40,42,32,59,40,42,58,42,41,42,41,32]),(E.str [9])]) (E.loc .n_which)),.ifs (E.or [(E.and [(E.cmp .eq (E.loc .n_gap) (E.str [])),(E.cmp .notin (E.loc .n_sign) (E.list [(E.str [40]),(E.str [41]),(E.str [58]),(E.str [59]),(E.str [44])]))]),(E.and [(E.cmp .eq (E.loc .n_which) (E.int 3)),(E.cmp .gt (E.loc .n_remarks) (E.int 2))])]) [.asg .n_gap (E.str [32])] [],.aug .n_said (E.loc .n_gap),.asg .n_sort (E.ite (E.cmp .eq (E.loc .n_sign) (E.str [55])) (E.str [105,110,116]) (E.str [105,100,101,110,116])),.ifs (E.cmp .isin (E.loc .n_sign) (E.list [(E.str [40]),(E.str [41]),(E.str [58]),(E.str [59]),(E.str [44]),(E.str [46]),(E.str [61]),(E.str [86,65,82]),(E.str [65,82,82,65,89]),(E.str [79,70]),(E.str [82,69,67,79,82,68])])) [.asg .n_sort (E.loc .n_sign)] [],.expr (E.append (E.loc .n_rows) (E.tup [(E.loc .n_sort),(E.loc .n_sign),(E.bi .b_len [(E.loc .n_said)])])),.aug .n_said (E.loc .n_sign)]) (l2.map V.str) ρ H2 (seqK sp (b_law_written.drop 4) fun fl _ H' => Q (retOf fl) H') bq := by
    intro l2
    induction l2 with
    | nil =>
      intro s R rr rem H2 ρ bq _ hn hsl hW p2 k2 frr hrr q1 q2 q3 q4
      have hra2 := k2 _ _ hra ho
      refine fl_nil (by simp only [srcB,itemsOfV,hra2]) ?_
      unfold b_law_written
      simp only [List.drop]
      have c1 : s.length ≤ 10000000 := by omega
      have c2 : (R.map rowV).length < 1000000 := by simp; omega
      walk_at "X"
      refine k s (R ++ [([101,111,102],[],s.length)]) rr _ frr ?_ hW.fin (by simp) (by simp at hn ⊢; omega) (by omega) ?_ (k2.putf frr)
      · rw [put_same,List.map_append]; rfl
      · obtain ⟨ns,a,b,a1,a2,a3⟩ := p2
        have off : rr ∉ [pa,ca] := hp.off frr
        simp only [List.mem_cons,List.not_mem_nil,or_false,not_or] at off
        exact ⟨ns,a,b,pt a1 (Ne.symm off.1),pt a2 (Ne.symm off.2),a3⟩
    | cons sign l2 ih =>
      intro s R rr rem H2 ρ bq hv2 hn hsl hW p2 k2 frr hrr q1 q2 q3 q4
      simp only [List.length_cons] at hn hsl
      have hra2 := k2 _ _ hra ho
      have hsign := hv2 sign List.mem_cons_self
      have hsv := List.all_eq_true.mp sort_not _ hsign
      simp only [Bool.and_eq_true,decide_eq_true_eq] at hsv
      refine fl_cons (by simp only [srcB,itemsOfV,hra2]) rfl ?_
      have off : rr ∉ [pa,ca] := hp.off frr
      have last : ∀ (g so : Tx) (rem : Int) (H3 : AH) (ρ : Rho),so = sortOf sign → g ∈ gaps → (g = [] → sign ∈ punct) → PL H3 pa ca → KpX [pa,ca] H H3 → H3 rr = some (.list (R.map rowV)) →
          ρ .n_pool = some (.ref pa) → ρ .n_said = some (.str (s ++ g)) → ρ .n_rows = some (.ref rr) → ρ .n_remarks = some (.int rem) → ρ .n_sort = some (.str so) → ρ .n_sign = some (.str sign) →
          wpSs sp [.expr (E.append (E.loc .n_rows) (E.tup [(E.loc .n_sort),(E.loc .n_sign),(E.bi .b_len [(E.loc .n_said)])])),.aug .n_said (E.loc .n_sign)] ρ H3
            (flK (srcB (.ref ra) (l.map V.str)) (asgB .n_sign) (bodyB sp [.asg .n_which (E.call .f_law_take [(E.loc .n_pool),(E.int 5)]),.aug .n_remarks (E.ite (E.cmp .eq (E.loc .n_which) (E.int 3)) (E.int 1) (E.int 0)),.asg .n_gap (E.idx (E.list [(E.str [32]),(E.str []),(E.str [10]),(E.str [32,40,42,32,59,40,42,58,42,41,42,41,32]),(E.str [9])]) (E.loc .n_which)),.ifs (E.or [(E.and [(E.cmp .eq (E.loc .n_gap) (E.str [])),(E.cmp .notin (E.loc .n_sign) (E.list [(E.str [40]),(E.str [41]),(E.str [58]),(E.str [59]),(E.str [44])]))]),(E.and [(E.cmp .eq (E.loc .n_which) (E.int 3)),(E.cmp .gt (E.loc .n_remarks) (E.int 2))])]) [.asg .n_gap (E.str [32])] [],.aug .n_said (E.loc .n_gap),.asg .n_sort (E.ite (E.cmp .eq (E.loc .n_sign) (E.str [55])) (E.str [105,110,116]) (E.str [105,100,101,110,116])),.ifs (E.cmp .isin (E.loc .n_sign) (E.list [(E.str [40]),(E.str [41]),(E.str [58]),(E.str [59]),(E.str [44]),(E.str [46]),(E.str [61]),(E.str [86,65,82]),(E.str [65,82,82,65,89]),(E.str [79,70]),(E.str [82,69,67,79,82,68])])) [.asg .n_sort (E.loc .n_sign)] [],.expr (E.append (E.loc .n_rows) (E.tup [(E.loc .n_sort),(E.loc .n_sign),(E.bi .b_len [(E.loc .n_said)])])),.aug .n_said (E.loc .n_sign)]) (l2.map V.str) (seqK sp (b_law_written.drop 4) fun fl _ H' => Q (retOf fl) H')) := by
        intro g so rem H3 ρ eso hg hgs p3 k3 h3 t1 t2 t3 t4 t5 t6
        subst eso
        have gl : g.length ≤ 13 := by
          have := List.all_eq_true.mp (show gaps.all (fun p => decide (p.length ≤ 13)) = true by decide +kernel) _ hg
          simpa using this
        have c1 : (s ++ g).length ≤ 10000000 := by simp; omega
        have c2 : (R.map rowV).length < 1000000 := by simp; omega
        have c3 : (s ++ g).length + sign.length ≤ 10000000 := by simp; omega
        walk_at "X"
        refine ih (s ++ g ++ sign) (R ++ [(sortOf sign,sign,(s ++ g).length)]) rr rem _ _ ⟨⟩ (fun x hx => hv2 x (List.mem_cons_of_mem _ hx)) (by simp; omega) (by simp; omega) (hW.step hg hsign hgs) ?_ (k3.putf frr) frr ?_ t1 ?_ t3 t4
        · obtain ⟨ns,a,b,a1,a2,a3⟩ := p3
          simp only [List.mem_cons,List.not_mem_nil,or_false,not_or] at off
          exact ⟨ns,a,b,pt a1 (Ne.symm off.1),pt a2 (Ne.symm off.2),a3⟩
        · rw [put_same,List.map_append]; rfl
        · simp only [put_apply,if_true]
      have rest : ∀ (g : Tx) (rem : Int) (H3 : AH) (ρ : Rho),g ∈ gaps → (g = [] → sign ∈ punct) → PL H3 pa ca → KpX [pa,ca] H H3 → H3 rr = some (.list (R.map rowV)) →
          ρ .n_pool = some (.ref pa) → ρ .n_said = some (.str s) → ρ .n_rows = some (.ref rr) → ρ .n_remarks = some (.int rem) → ρ .n_gap = some (.str g) → ρ .n_sign = some (.str sign) →
          wpSs sp (([.asg .n_which (E.call .f_law_take [(E.loc .n_pool),(E.int 5)]),.aug .n_remarks (E.ite (E.cmp .eq (E.loc .n_which) (E.int 3)) (E.int 1) (E.int 0)),.asg .n_gap (E.idx (E.list [(E.str [32]),(E.str []),(E.str [10]),(E.str [32,40,42,32,59,40,42,58,42,41,42,41,32]),(E.str [9])]) (E.loc .n_which)),.ifs (E.or [(E.and [(E.cmp .eq (E.loc .n_gap) (E.str [])),(E.cmp .notin (E.loc .n_sign) (E.list [(E.str [40]),(E.str [41]),(E.str [58]),(E.str [59]),(E.str [44])]))]),(E.and [(E.cmp .eq (E.loc .n_which) (E.int 3)),(E.cmp .gt (E.loc .n_remarks) (E.int 2))])]) [.asg .n_gap (E.str [32])] [],.aug .n_said (E.loc .n_gap),.asg .n_sort (E.ite (E.cmp .eq (E.loc .n_sign) (E.str [55])) (E.str [105,110,116]) (E.str [105,100,101,110,116])),.ifs (E.cmp .isin (E.loc .n_sign) (E.list [(E.str [40]),(E.str [41]),(E.str [58]),(E.str [59]),(E.str [44]),(E.str [46]),(E.str [61]),(E.str [86,65,82]),(E.str [65,82,82,65,89]),(E.str [79,70]),(E.str [82,69,67,79,82,68])])) [.asg .n_sort (E.loc .n_sign)] [],.expr (E.append (E.loc .n_rows) (E.tup [(E.loc .n_sort),(E.loc .n_sign),(E.bi .b_len [(E.loc .n_said)])])),.aug .n_said (E.loc .n_sign)]).drop 4) ρ H3 (flK (srcB (.ref ra) (l.map V.str)) (asgB .n_sign) (bodyB sp [.asg .n_which (E.call .f_law_take [(E.loc .n_pool),(E.int 5)]),.aug .n_remarks (E.ite (E.cmp .eq (E.loc .n_which) (E.int 3)) (E.int 1) (E.int 0)),.asg .n_gap (E.idx (E.list [(E.str [32]),(E.str []),(E.str [10]),(E.str [32,40,42,32,59,40,42,58,42,41,42,41,32]),(E.str [9])]) (E.loc .n_which)),.ifs (E.or [(E.and [(E.cmp .eq (E.loc .n_gap) (E.str [])),(E.cmp .notin (E.loc .n_sign) (E.list [(E.str [40]),(E.str [41]),(E.str [58]),(E.str [59]),(E.str [44])]))]),(E.and [(E.cmp .eq (E.loc .n_which) (E.int 3)),(E.cmp .gt (E.loc .n_remarks) (E.int 2))])]) [.asg .n_gap (E.str [32])] [],.aug .n_said (E.loc .n_gap),.asg .n_sort (E.ite (E.cmp .eq (E.loc .n_sign) (E.str [55])) (E.str [105,110,116]) (E.str [105,100,101,110,116])),.ifs (E.cmp .isin (E.loc .n_sign) (E.list [(E.str [40]),(E.str [41]),(E.str [58]),(E.str [59]),(E.str [44]),(E.str [46]),(E.str [61]),(E.str [86,65,82]),(E.str [65,82,82,65,89]),(E.str [79,70]),(E.str [82,69,67,79,82,68])])) [.asg .n_sort (E.loc .n_sign)] [],.expr (E.append (E.loc .n_rows) (E.tup [(E.loc .n_sort),(E.loc .n_sign),(E.bi .b_len [(E.loc .n_said)])])),.aug .n_said (E.loc .n_sign)]) (l2.map V.str) (seqK sp (b_law_written.drop 4) fun fl _ H' => Q (retOf fl) H')) := by
        intro g rem H3 ρ hg hgs p3 k3 h3 t1 t2 t3 t4 t5 t6
        simp only [List.drop]
        have gl : g.length ≤ 13 := by
          have := List.all_eq_true.mp (show gaps.all (fun p => decide (p.length ≤ 13)) = true by decide +kernel) _ hg
          simpa using this
        have c1 : s.length + g.length ≤ 10000000 := by omega
        have tail2 : ∀ (so0 : Tx) (ρ : Rho),(¬ sign ∈ symV ++ kwV → so0 = sortOf sign) → ρ .n_pool = some (.ref pa) → ρ .n_said = some (.str (s ++ g)) → ρ .n_rows = some (.ref rr) → ρ .n_remarks = some (.int rem) → ρ .n_sort = some (.str so0) → ρ .n_sign = some (.str sign) →
            wpSs sp (([.asg .n_which (E.call .f_law_take [(E.loc .n_pool),(E.int 5)]),.aug .n_remarks (E.ite (E.cmp .eq (E.loc .n_which) (E.int 3)) (E.int 1) (E.int 0)),.asg .n_gap (E.idx (E.list [(E.str [32]),(E.str []),(E.str [10]),(E.str [32,40,42,32,59,40,42,58,42,41,42,41,32]),(E.str [9])]) (E.loc .n_which)),.ifs (E.or [(E.and [(E.cmp .eq (E.loc .n_gap) (E.str [])),(E.cmp .notin (E.loc .n_sign) (E.list [(E.str [40]),(E.str [41]),(E.str [58]),(E.str [59]),(E.str [44])]))]),(E.and [(E.cmp .eq (E.loc .n_which) (E.int 3)),(E.cmp .gt (E.loc .n_remarks) (E.int 2))])]) [.asg .n_gap (E.str [32])] [],.aug .n_said (E.loc .n_gap),.asg .n_sort (E.ite (E.cmp .eq (E.loc .n_sign) (E.str [55])) (E.str [105,110,116]) (E.str [105,100,101,110,116])),.ifs (E.cmp .isin (E.loc .n_sign) (E.list [(E.str [40]),(E.str [41]),(E.str [58]),(E.str [59]),(E.str [44]),(E.str [46]),(E.str [61]),(E.str [86,65,82]),(E.str [65,82,82,65,89]),(E.str [79,70]),(E.str [82,69,67,79,82,68])])) [.asg .n_sort (E.loc .n_sign)] [],.expr (E.append (E.loc .n_rows) (E.tup [(E.loc .n_sort),(E.loc .n_sign),(E.bi .b_len [(E.loc .n_said)])])),.aug .n_said (E.loc .n_sign)]).drop 6) ρ H3 (flK (srcB (.ref ra) (l.map V.str)) (asgB .n_sign) (bodyB sp [.asg .n_which (E.call .f_law_take [(E.loc .n_pool),(E.int 5)]),.aug .n_remarks (E.ite (E.cmp .eq (E.loc .n_which) (E.int 3)) (E.int 1) (E.int 0)),.asg .n_gap (E.idx (E.list [(E.str [32]),(E.str []),(E.str [10]),(E.str [32,40,42,32,59,40,42,58,42,41,42,41,32]),(E.str [9])]) (E.loc .n_which)),.ifs (E.or [(E.and [(E.cmp .eq (E.loc .n_gap) (E.str [])),(E.cmp .notin (E.loc .n_sign) (E.list [(E.str [40]),(E.str [41]),(E.str [58]),(E.str [59]),(E.str [44])]))]),(E.and [(E.cmp .eq (E.loc .n_which) (E.int 3)),(E.cmp .gt (E.loc .n_remarks) (E.int 2))])]) [.asg .n_gap (E.str [32])] [],.aug .n_said (E.loc .n_gap),.asg .n_sort (E.ite (E.cmp .eq (E.loc .n_sign) (E.str [55])) (E.str [105,110,116]) (E.str [105,100,101,110,116])),.ifs (E.cmp .isin (E.loc .n_sign) (E.list [(E.str [40]),(E.str [41]),(E.str [58]),(E.str [59]),(E.str [44]),(E.str [46]),(E.str [61]),(E.str [86,65,82]),(E.str [65,82,82,65,89]),(E.str [79,70]),(E.str [82,69,67,79,82,68])])) [.asg .n_sort (E.loc .n_sign)] [],.expr (E.append (E.loc .n_rows) (E.tup [(E.loc .n_sort),(E.loc .n_sign),(E.bi .b_len [(E.loc .n_said)])])),.aug .n_said (E.loc .n_sign)]) (l2.map V.str) (seqK sp (b_law_written.drop 4) fun fl _ H' => Q (retOf fl) H')) := by
          intro so0 ρ eso t1 t2 t3 t4 t5 t6
          simp only [List.drop]
          walk_at "X"
          intro c hc
          have p4 := p3.new (o := .list [.str [40],.str [41],.str [58],.str [59],.str [44],.str [46],.str [61],.str [86,65,82],.str [65,82,82,65,89],.str [79,70],.str [82,69,67,79,82,68]]) hc
          have k4 : KpX [pa,ca] H (put H3 c (.list [.str [40],.str [41],.str [58],.str [59],.str [44],.str [46],.str [61],.str [86,65,82],.str [65,82,82,65,89],.str [79,70],.str [82,69,67,79,82,68]])) := k3.putf (k3.fr hc (p3.off hc))
          have h4 := pt (x := .list [.str [40],.str [41],.str [58],.str [59],.str [44],.str [46],.str [61],.str [86,65,82],.str [65,82,82,65,89],.str [79,70],.str [82,69,67,79,82,68]]) h3 (nf h3 hc)
          have g6 : put H3 c (.list [.str [40],.str [41],.str [58],.str [59],.str [44],.str [46],.str [61],.str [86,65,82],.str [65,82,82,65,89],.str [79,70],.str [82,69,67,79,82,68]]) c = some (.list [.str [40],.str [41],.str [58],.str [59],.str [44],.str [46],.str [61],.str [86,65,82],.str [65,82,82,65,89],.str [79,70],.str [82,69,67,79,82,68]]) := put_same
          generalize put H3 c (.list [.str [40],.str [41],.str [58],.str [59],.str [44],.str [46],.str [61],.str [86,65,82],.str [65,82,82,65,89],.str [79,70],.str [82,69,67,79,82,68]]) = H4 at *
          walk_at "X"
          refine Brn.mk (fun e => ?_) fun e => ?_
          · have es : sign = sortOf sign := by rw [sortOf,if_pos (show sign ∈ symV ++ kwV from e)]
            have z := last g sign rem H4 (put ρ .n_sort (.str sign)) es hg hgs p4 k4 h4 t1 t2 t3 t4 rfl t6
            walk_at "Z"
            exact z
          · have es : so0 = sortOf sign := eso e
            have z := last g so0 rem H4 ρ es hg hgs p4 k4 h4 t1 t2 t3 t4 t5 t6
            walk_at "Z"
            exact z
        simp only [List.drop] at tail2
        walk_at "X"
        refine Brn.mk (fun e7 => ?_) fun e7 => ?_
        · have z := tail2 [105,110,116] (put (put ρ .n_said (.str (s ++ g))) .n_sort (.str [105,110,116])) (fun n => by rw [sortOf,if_neg n,if_pos e7]) t1 rfl t3 t4 rfl t6
          walk_at "Z"
          exact z
        · have z := tail2 [105,100,101,110,116] (put (put ρ .n_said (.str (s ++ g))) .n_sort (.str [105,100,101,110,116])) (fun n => by rw [sortOf,if_neg n,if_neg e7]) t1 rfl t3 t4 rfl t6
          walk_at "Z"
          exact z
      simp only [List.drop] at rest
      walk_at "X"
      refine c_ltake (most := 5) hC p2 (by omega) (by omega) fun v H3 hv3 p3 k3 => ?_
      have k03 := k2.trans k3
      have h3 := k3 _ _ hrr off
      have hv5 : v = 0 ∨ v = 1 ∨ v = 2 ∨ v = 3 ∨ v = 4 := by omega
      rcases hv5 with rfl | rfl | rfl | rfl | rfl
      · walk_at "X"
        intro c hc
        have p4 := p3.new (o := .list [.str [32],.str [],.str [10],.str [32,40,42,32,59,40,42,58,42,41,42,41,32],.str [9]]) hc
        have k4 : KpX [pa,ca] H (put H3 c (.list [.str [32],.str [],.str [10],.str [32,40,42,32,59,40,42,58,42,41,42,41,32],.str [9]])) := k03.putf (k03.fr hc (p3.off hc))
        have h4 := pt (x := .list [.str [32],.str [],.str [10],.str [32,40,42,32,59,40,42,58,42,41,42,41,32],.str [9]]) h3 (nf h3 hc)
        have g4 : put H3 c (.list [.str [32],.str [],.str [10],.str [32,40,42,32,59,40,42,58,42,41,42,41,32],.str [9]]) c = some (.list [.str [32],.str [],.str [10],.str [32,40,42,32,59,40,42,58,42,41,42,41,32],.str [9]]) := put_same
        generalize put H3 c (.list [.str [32],.str [],.str [10],.str [32,40,42,32,59,40,42,58,42,41,42,41,32],.str [9]]) = H4 at *
        have hit : It [.str [32],.str [],.str [10],.str [32,40,42,32,59,40,42,58,42,41,42,41,32],.str [9]] ((0 : Nat) : Int) (.str [32]) := ⟨rfl⟩
        have z := rest [32] (rem + 0) H4 (put (put (put (put ρ .n_sign (.str sign)) .n_which (.int ((0 : Nat) : Int))) .n_remarks (.int (rem + 0))) .n_gap (.str [32])) (by decide) (by simp) p4 k4 h4 q1 q2 q3 rfl rfl rfl
        walk_at "Z"
        exact z
      · walk_at "X"
        intro c hc
        have p4 := p3.new (o := .list [.str [32],.str [],.str [10],.str [32,40,42,32,59,40,42,58,42,41,42,41,32],.str [9]]) hc
        have k4 : KpX [pa,ca] H (put H3 c (.list [.str [32],.str [],.str [10],.str [32,40,42,32,59,40,42,58,42,41,42,41,32],.str [9]])) := k03.putf (k03.fr hc (p3.off hc))
        have h4 := pt (x := .list [.str [32],.str [],.str [10],.str [32,40,42,32,59,40,42,58,42,41,42,41,32],.str [9]]) h3 (nf h3 hc)
        have g4 : put H3 c (.list [.str [32],.str [],.str [10],.str [32,40,42,32,59,40,42,58,42,41,42,41,32],.str [9]]) c = some (.list [.str [32],.str [],.str [10],.str [32,40,42,32,59,40,42,58,42,41,42,41,32],.str [9]]) := put_same
        generalize put H3 c (.list [.str [32],.str [],.str [10],.str [32,40,42,32,59,40,42,58,42,41,42,41,32],.str [9]]) = H4 at *
        have hit : It [.str [32],.str [],.str [10],.str [32,40,42,32,59,40,42,58,42,41,42,41,32],.str [9]] ((1 : Nat) : Int) (.str []) := ⟨rfl⟩
        walk_at "X"
        intro c2 hc2
        have p5 := p4.new (o := .list [.str [40],.str [41],.str [58],.str [59],.str [44]]) hc2
        have k5 : KpX [pa,ca] H (put H4 c2 (.list [.str [40],.str [41],.str [58],.str [59],.str [44]])) := k4.putf (k4.fr hc2 (p4.off hc2))
        have h5 := pt (x := .list [.str [40],.str [41],.str [58],.str [59],.str [44]]) h4 (nf h4 hc2)
        have g5 : put H4 c2 (.list [.str [40],.str [41],.str [58],.str [59],.str [44]]) c2 = some (.list [.str [40],.str [41],.str [58],.str [59],.str [44]]) := put_same
        generalize put H4 c2 (.list [.str [40],.str [41],.str [58],.str [59],.str [44]]) = H5 at *
        walk_at "X"
        refine Brn.mk (fun e => ?_) fun e => ?_
        · have z := rest [] (rem + 0) H5 (put (put (put (put ρ .n_sign (.str sign)) .n_which (.int ((1 : Nat) : Int))) .n_remarks (.int (rem + 0))) .n_gap (.str [])) (by decide) (fun _ => e) p5 k5 h5 q1 q2 q3 rfl rfl rfl
          walk_at "Z"
          exact z
        · have z := rest [32] (rem + 0) H5 (put (put (put (put (put ρ .n_sign (.str sign)) .n_which (.int ((1 : Nat) : Int))) .n_remarks (.int (rem + 0))) .n_gap (.str [])) .n_gap (.str [32])) (by decide) (by simp) p5 k5 h5 q1 q2 q3 rfl rfl rfl
          walk_at "Z"
          exact z
      · walk_at "X"
        intro c hc
        have p4 := p3.new (o := .list [.str [32],.str [],.str [10],.str [32,40,42,32,59,40,42,58,42,41,42,41,32],.str [9]]) hc
        have k4 : KpX [pa,ca] H (put H3 c (.list [.str [32],.str [],.str [10],.str [32,40,42,32,59,40,42,58,42,41,42,41,32],.str [9]])) := k03.putf (k03.fr hc (p3.off hc))
        have h4 := pt (x := .list [.str [32],.str [],.str [10],.str [32,40,42,32,59,40,42,58,42,41,42,41,32],.str [9]]) h3 (nf h3 hc)
        have g4 : put H3 c (.list [.str [32],.str [],.str [10],.str [32,40,42,32,59,40,42,58,42,41,42,41,32],.str [9]]) c = some (.list [.str [32],.str [],.str [10],.str [32,40,42,32,59,40,42,58,42,41,42,41,32],.str [9]]) := put_same
        generalize put H3 c (.list [.str [32],.str [],.str [10],.str [32,40,42,32,59,40,42,58,42,41,42,41,32],.str [9]]) = H4 at *
        have hit : It [.str [32],.str [],.str [10],.str [32,40,42,32,59,40,42,58,42,41,42,41,32],.str [9]] ((2 : Nat) : Int) (.str [10]) := ⟨rfl⟩
        have z := rest [10] (rem + 0) H4 (put (put (put (put ρ .n_sign (.str sign)) .n_which (.int ((2 : Nat) : Int))) .n_remarks (.int (rem + 0))) .n_gap (.str [10])) (by decide) (by simp) p4 k4 h4 q1 q2 q3 rfl rfl rfl
        walk_at "Z"
        exact z
      · walk_at "X"
        intro c hc
        have p4 := p3.new (o := .list [.str [32],.str [],.str [10],.str [32,40,42,32,59,40,42,58,42,41,42,41,32],.str [9]]) hc
        have k4 : KpX [pa,ca] H (put H3 c (.list [.str [32],.str [],.str [10],.str [32,40,42,32,59,40,42,58,42,41,42,41,32],.str [9]])) := k03.putf (k03.fr hc (p3.off hc))
        have h4 := pt (x := .list [.str [32],.str [],.str [10],.str [32,40,42,32,59,40,42,58,42,41,42,41,32],.str [9]]) h3 (nf h3 hc)
        have g4 : put H3 c (.list [.str [32],.str [],.str [10],.str [32,40,42,32,59,40,42,58,42,41,42,41,32],.str [9]]) c = some (.list [.str [32],.str [],.str [10],.str [32,40,42,32,59,40,42,58,42,41,42,41,32],.str [9]]) := put_same
        generalize put H3 c (.list [.str [32],.str [],.str [10],.str [32,40,42,32,59,40,42,58,42,41,42,41,32],.str [9]]) = H4 at *
        have hit : It [.str [32],.str [],.str [10],.str [32,40,42,32,59,40,42,58,42,41,42,41,32],.str [9]] ((3 : Nat) : Int) (.str [32,40,42,32,59,40,42,58,42,41,42,41,32]) := ⟨rfl⟩
        walk_at "X"
        refine Brn.mk (fun e => ?_) fun e => ?_
        · have z := rest [32] (rem + 1) H4 (put (put (put (put (put ρ .n_sign (.str sign)) .n_which (.int ((3 : Nat) : Int))) .n_remarks (.int (rem + 1))) .n_gap (.str [32,40,42,32,59,40,42,58,42,41,42,41,32])) .n_gap (.str [32])) (by decide) (by simp) p4 k4 h4 q1 q2 q3 rfl rfl rfl
          walk_at "Z"
          exact z
        · have z := rest [32,40,42,32,59,40,42,58,42,41,42,41,32] (rem + 1) H4 (put (put (put (put ρ .n_sign (.str sign)) .n_which (.int ((3 : Nat) : Int))) .n_remarks (.int (rem + 1))) .n_gap (.str [32,40,42,32,59,40,42,58,42,41,42,41,32])) (by decide) (by simp) p4 k4 h4 q1 q2 q3 rfl rfl rfl
          walk_at "Z"
          exact z
      · walk_at "X"
        intro c hc
        have p4 := p3.new (o := .list [.str [32],.str [],.str [10],.str [32,40,42,32,59,40,42,58,42,41,42,41,32],.str [9]]) hc
        have k4 : KpX [pa,ca] H (put H3 c (.list [.str [32],.str [],.str [10],.str [32,40,42,32,59,40,42,58,42,41,42,41,32],.str [9]])) := k03.putf (k03.fr hc (p3.off hc))
        have h4 := pt (x := .list [.str [32],.str [],.str [10],.str [32,40,42,32,59,40,42,58,42,41,42,41,32],.str [9]]) h3 (nf h3 hc)
        have g4 : put H3 c (.list [.str [32],.str [],.str [10],.str [32,40,42,32,59,40,42,58,42,41,42,41,32],.str [9]]) c = some (.list [.str [32],.str [],.str [10],.str [32,40,42,32,59,40,42,58,42,41,42,41,32],.str [9]]) := put_same
        generalize put H3 c (.list [.str [32],.str [],.str [10],.str [32,40,42,32,59,40,42,58,42,41,42,41,32],.str [9]]) = H4 at *
        have hit : It [.str [32],.str [],.str [10],.str [32,40,42,32,59,40,42,58,42,41,42,41,32],.str [9]] ((4 : Nat) : Int) (.str [9]) := ⟨rfl⟩
        have z := rest [9] (rem + 0) H4 (put (put (put (put ρ .n_sign (.str sign)) .n_which (.int ((4 : Nat) : Int))) .n_remarks (.int (rem + 0))) .n_gap (.str [9])) (by decide) (by simp) p4 k4 h4 q1 q2 q3 rfl rfl rfl
        walk_at "Z"
        exact z
  unfold b_law_written at main
  simp only [List.drop] at main
  simp only [Fn.body,Fn.params,rhoOf,List.cons_append,List.nil_append]
  (unfold b_law_written; walk_at "X")
  intro rr hrr
  walk_at "X"
  have hra2 := pt (x := .list []) hra (nf hra hrr)
  walk_at "X"
  exact main l [] [] rr 0 _ _ ⟨⟩ hv (by simpa using hl) (by simp; omega) Wr.nil (hp.new hrr) (KpX.refl.putf hrr) hrr put_same rfl rfl rfl rfl
end
end
section

def BT (H : AH) (a : Addr) (n : Int) (form : Tx) (sz : Int) : Prop := ∃ f p q,H a = some (typeO n form sz .none 0 f p q [] [])
theorem KpX.sub {xs ys : List Addr} {H H1 H2 : AH} (h : KpX xs H H1) (h2 : KpX ys H1 H2) (hs : ∀ y ∈ ys,H y = none ∨ y ∈ xs) : KpX xs H H2 := fun a o e n => h2 a o (h a o e n) fun q => (hs a q).elim (fun z => by rw [z] at e; cases e) n
theorem BT.keep {H H' : AH} {ty kn a : Addr} {n sz : Int} {form : Tx} {m : List (N × V)} {d : Nat} (k : KpX [ty,kn] H H') (h1 : H ty = some (.inst .c_Types m)) (h2 : H kn = some (.td d)) (h : BT H a n form sz) : BT H' a n form sz := by
  obtain ⟨f,p,q,e⟩ := h
  exact ⟨f,p,q,k _ _ e (by simp only [List.mem_cons,List.not_mem_nil,or_false,not_or]; exact ⟨nn e h1 nofun,nn e h2 nofun⟩)⟩
section
variable {sp : Sp} (hC : Calls sp) {H : AH} {Q : Post}
include hC
theorem c_tnew {ty kn : Addr} {m : List (N × V)} {k : Int} {d : Nat} {form : Tx} {sz : Int} {n : N} {ρ : Rho} {K : AH → Prop} (hr : ρ .n_self = some (.ref ty)) (h1 : H ty = some (.inst .c_Types m)) (h2 : lk m .n_counter = some (.int k)) (h3 : lk m .n_known = some (.ref kn)) (h4 : H kn = some (.td d)) (h5 : d ≤ 100000) (h6 : m.length ≤ 30) (hn : n ∈ Cls.attrs .c_Types)
    (h : ∀ b H',BT H' b (k + 1) form sz → H' ty = some (.inst .c_Types (sset (sset m .n_counter (.int (k + 1))) n (.ref b))) → H' kn = some (.td d) → KpX [ty,kn] H H' → K H') :
    sp .f_Types_new [.ref ty,.str form,.int sz] H fun v H1 => wpE sp ρ (.loc .n_self) H1 fun w H2 => setAttrV w n v H2 K := by
  refine c_Types_new3 hC h1 h2 h3 h4 h5 (by omega) fun b f p q H' b1 b2 b3 b4 b5 => ?_
  have e : ∀ (m : List (N × V)) (x : N) (v : V),(sset m x v).length ≤ m.length + 1 := by
    intro m x v
    induction m with
    | nil => simp [sset]
    | cons y r i => unfold sset; split <;> simp; omega
  have := e m .n_counter (.int (k + 1))
  rw [e_loc ⟨hr⟩,sa_r b3 ⟨decide_eq_true hn⟩ ⟨by simp; omega⟩]
  exact h b _ ⟨f,p,q,pt b2 (nn b2 b3 nofun)⟩ put_same (pt b4 (nn b4 b3 nofun)) (b5.putm (by simp))
theorem c_newTypes (h : ∀ ty kn tB tC tY tI tM tL tN H',H ty = none → H kn = none → H' ty = some (.inst .c_Types [(.n_counter,.int 7),(.n_known,.ref kn),(.n_boolean,.ref tB),(.n_char,.ref tC),(.n_byte,.ref tY),(.n_integer,.ref tI),(.n_mask,.ref tM),(.n_nil,.ref tL),(.n_none,.ref tN)]) → H' kn = some (.td 0) →
    BT H' tB 1 [98,111,111,108,101,97,110] 1 → BT H' tC 2 [99,104,97,114] 1 → BT H' tY 3 [98,121,116,101] 1 → BT H' tI 4 [105,110,116,101,103,101,114] 4 → BT H' tM 5 [115,101,116] 4 → BT H' tL 6 [110,105,108] 4 → BT H' tN 7 [110,111,110,101] 0 → KpX [] H H' → Q (.ref ty) H') : New sp .c_Types [] H Q ⟨⟩ := by
  intro ty hty
  refine hC .f_Types_init _ [] _ _ rfl ?_
  simp only [Fn.body,Fn.params,rhoOf,List.cons_append,List.nil_append]
  (unfold b_Types_init; walk_at "X")
  intro kn hkn
  have nk := Ne.symm (fresh_put (fresh_put hkn).1).2
  have hkn0 := (fresh_put (fresh_put hkn).1).1
  have k0 : KpX [] H (put (put H ty (.inst .c_Types [])) ty (.inst .c_Types [(.n_counter,.int 0)])) := (KpX.refl.putf hty).putf hty
  have k1 : KpX [] H (put (put (put (put H ty (.inst .c_Types [])) ty (.inst .c_Types [(.n_counter,.int 0)])) kn (.td 0)) ty (.inst .c_Types [(.n_counter,.int 0),(.n_known,.ref kn)])) := (k0.putf hkn0).putf hty
  have t0 : put (put (put (put H ty (.inst .c_Types [])) ty (.inst .c_Types [(.n_counter,.int 0)])) kn (.td 0)) ty (.inst .c_Types [(.n_counter,.int 0),(.n_known,.ref kn)]) ty = some (.inst .c_Types [(.n_counter,.int 0),(.n_known,.ref kn)]) := put_same
  have n0 : put (put (put (put H ty (.inst .c_Types [])) ty (.inst .c_Types [(.n_counter,.int 0)])) kn (.td 0)) ty (.inst .c_Types [(.n_counter,.int 0),(.n_known,.ref kn)]) kn = some (.td 0) := pt put_same (Ne.symm nk)
  walk_at "X"
  generalize put (put (put (put H ty (.inst .c_Types [])) ty (.inst .c_Types [(.n_counter,.int 0)])) kn (.td 0)) ty (.inst .c_Types [(.n_counter,.int 0),(.n_known,.ref kn)]) = H0 at *
  refine c_tnew hC rfl t0 rfl rfl n0 (by omega) (by simp) (by decide) fun tB H1 bB t1 n1 k1' => ?_
  simp only [sset,reduceCtorEq,if_true,if_false] at t1
  walk_at "X"
  refine c_tnew hC rfl t1 rfl rfl n1 (by omega) (by simp) (by decide) fun tC H2 bC t2 n2 k2 => ?_
  simp only [sset,reduceCtorEq,if_true,if_false] at t2
  have bB := bB.keep k2 t1 n1
  walk_at "X"
  refine c_tnew hC rfl t2 rfl rfl n2 (by omega) (by simp) (by decide) fun tY H3 bY t3 n3 k3 => ?_
  simp only [sset,reduceCtorEq,if_true,if_false] at t3
  have bB := bB.keep k3 t2 n2
  have bC := bC.keep k3 t2 n2
  walk_at "X"
  refine c_tnew hC rfl t3 rfl rfl n3 (by omega) (by simp) (by decide) fun tI H4 bI t4 n4 k4 => ?_
  simp only [sset,reduceCtorEq,if_true,if_false] at t4
  have bB := bB.keep k4 t3 n3
  have bC := bC.keep k4 t3 n3
  have bY := bY.keep k4 t3 n3
  walk_at "X"
  refine c_tnew hC rfl t4 rfl rfl n4 (by omega) (by simp) (by decide) fun tM H5 bM t5 n5 k5 => ?_
  simp only [sset,reduceCtorEq,if_true,if_false] at t5
  have bB := bB.keep k5 t4 n4
  have bC := bC.keep k5 t4 n4
  have bY := bY.keep k5 t4 n4
  have bI := bI.keep k5 t4 n4
  walk_at "X"
  refine c_tnew hC rfl t5 rfl rfl n5 (by omega) (by simp) (by decide) fun tL H6 bL t6 n6 k6 => ?_
  simp only [sset,reduceCtorEq,if_true,if_false] at t6
  have bB := bB.keep k6 t5 n5
  have bC := bC.keep k6 t5 n5
  have bY := bY.keep k6 t5 n5
  have bI := bI.keep k6 t5 n5
  have bM := bM.keep k6 t5 n5
  walk_at "X"
  refine c_tnew hC rfl t6 rfl rfl n6 (by omega) (by simp) (by decide) fun tN H7 bN t7 n7 k7 => ?_
  simp only [sset,reduceCtorEq,if_true,if_false] at t7
  have bB := bB.keep k7 t6 n6
  have bC := bC.keep k7 t6 n6
  have bY := bY.keep k7 t6 n6
  have bI := bI.keep k7 t6 n6
  have bM := bM.keep k7 t6 n6
  have bL := bL.keep k7 t6 n6
  walk_at "X"
  refine ⟨trivial,h ty kn tB tC tY tI tM tL tN H7 hty hkn0 t7 n7 bB bC bY bI bM bL bN ?_⟩
  refine (((((((k1.sub k1' ?_).sub k2 ?_).sub k3 ?_).sub k4 ?_).sub k5 ?_).sub k6 ?_).sub k7 ?_) <;> (intro y hy; simp only [List.mem_cons,List.not_mem_nil,or_false] at hy; rcases hy with rfl | rfl <;> first | exact .inl hty | exact .inl hkn0)
theorem c_newErrors (h : ∀ er rw pl H',H er = none → H rw = none → H pl = none → H' er = some (.inst .c_ErrorList [(.n_rows,.ref rw),(.n_places,.ref pl)]) → H' rw = some (.list []) → H' pl = some (.idt []) → KpX [] H H' → Q (.ref er) H') : New sp .c_ErrorList [] H Q ⟨⟩ := by
  intro er her
  refine hC .f_ErrorList_init _ [] _ _ rfl ?_
  simp only [Fn.body,Fn.params,rhoOf,List.cons_append,List.nil_append]
  (unfold b_ErrorList_init; walk_at "X")
  intro rw hrw
  have n1 := Ne.symm (fresh_put hrw).2
  have rw0 := (fresh_put hrw).1
  walk_at "X"
  intro pl hpl
  have pl0 : H pl = none := KpX.fr (xs := []) (by repeat' (first | exact KpX.refl | refine KpX.putf ?_ (by assumption))) hpl (by simp)
  have n2 : er ≠ pl := Ne.symm (fresh_put hpl).2
  have n3 : rw ≠ pl := Ne.symm (fresh_put (fresh_put hpl).1).2
  have n1' := Ne.symm n1
  have n2' := Ne.symm n2
  walk_at "X"
  refine ⟨trivial,h er rw pl _ her rw0 pl0 put_same ?_ ?_ (by repeat' (first | exact KpX.refl | refine KpX.putf ?_ (by assumption)))⟩
  · exact pt (pt (pt put_same n1') n3) n1'
  · exact pt put_same n2'
theorem c_newInterface {nm : Tx} {key : Int} (h : ∀ i ol im H',H i = none → H' i = some (.inst .c_Interface [(.n_name,.str nm),(.n_key,.int key),(.n_objs,.ref ol),(.n_imports,.ref im)]) → KpX [] H H' → Q (.ref i) H') : New sp .c_Interface [.str nm,.int key] H Q ⟨⟩ := by
  intro i hi
  refine hC .f_Interface_init _ [] _ _ rfl ?_
  simp only [Fn.body,Fn.params,rhoOf,List.cons_append,List.nil_append]
  (unfold b_Interface_init; walk_at "X")
  intro ol hol
  have n1 : i ≠ ol := Ne.symm (fresh_put hol).2
  have ol0 : H ol = none := KpX.fr (xs := []) (by repeat' (first | exact KpX.refl | refine KpX.putf ?_ (by assumption))) hol (by simp)
  walk_at "X"
  intro im him
  have im0 : H im = none := KpX.fr (xs := []) (by repeat' (first | exact KpX.refl | refine KpX.putf ?_ (by assumption))) him (by simp)
  have n2 : i ≠ im := Ne.symm (fresh_put him).2
  walk_at "X"
  exact ⟨trivial,h i ol im _ hi put_same (by repeat' (first | exact KpX.refl | refine KpX.putf ?_ (by assumption)))⟩
theorem c_newScanner {src : Tx} {er : Addr} (h : ∀ sc,H sc = none → Q (.ref sc) (put H sc (scO src er 0))) : New sp .c_Scanner [.str src,.ref er] H Q ⟨⟩ := by
  intro sc hsc
  refine hC .f_Scanner_init _ [] _ _ rfl ?_
  simp only [Fn.body,Fn.params,rhoOf,List.cons_append,List.nil_append]
  (unfold b_Scanner_init; walk_at "X")
  refine hC .f_keywords [] [] _ _ rfl ?_
  simp only [Fn.body,Fn.params,rhoOf,List.cons_append,List.nil_append]
  (unfold b_keywords; walk_at "X")
  simp only [put_put,true_and]
  exact h sc hsc
abbrev scopeO (lv : Int) (lb : Tx) (d o : Addr) (k : Int) : O := .inst .c_Scope [(.n_level,.int lv),(.n_label,.str lb),(.n_names,.ref d),(.n_order,.ref o),(.n_slots,.int k)]
theorem c_newScope {lv : Int} {lb : Tx} (h : ∀ sc d o H',H sc = none → H d = none → H o = none → H' sc = some (scopeO lv lb d o 0) → H' d = some (.sd []) → H' o = some (.list []) → KpX [] H H' → Q (.ref sc) H') : New sp .c_Scope [.int lv,.str lb] H Q ⟨⟩ := by
  intro sc hsc
  refine hC .f_Scope_init _ [] _ _ rfl ?_
  simp only [Fn.body,Fn.params,rhoOf,List.cons_append,List.nil_append]
  (unfold b_Scope_init; walk_at "X")
  intro d hd
  have n1 : sc ≠ d := Ne.symm (fresh_put hd).2
  have d0 : H d = none := KpX.fr (xs := []) (by repeat' (first | exact KpX.refl | refine KpX.putf ?_ (by assumption))) hd (by simp)
  walk_at "X"
  intro o ho
  have o0 : H o = none := KpX.fr (xs := []) (by repeat' (first | exact KpX.refl | refine KpX.putf ?_ (by assumption))) ho (by simp)
  have n2 : sc ≠ o := Ne.symm (fresh_put ho).2
  have n3 : d ≠ o := Ne.symm (fresh_put (fresh_put ho).1).2
  have n1' := Ne.symm n1
  have n2' := Ne.symm n2
  walk_at "X"
  refine ⟨trivial,h sc d o _ hsc d0 o0 put_same ?_ ?_ (by repeat' (first | exact KpX.refl | refine KpX.putf ?_ (by assumption)))⟩
  · exact pt (pt (pt (pt put_same n1') n3) n1') n1'
  · exact pt (pt put_same n2') n2'
end
end
section
abbrev scsO (ty st : Addr) (lv : Int) : O := .inst .c_Scopes [(.n_types,.ref ty),(.n_module,.str []),(.n_stack,.ref st),(.n_level,.int lv)]
abbrev insO (name kind : Tx) (t : V) (p lv : Int) (val : V) (sl : Int) : O := .inst .c_Obj [(.n_name,.str name),(.n_kind,.str kind),(.n_type,t),(.n_place,.int p),(.n_exported,.bool false),(.n_readonly,.bool false),(.n_level,.int lv),(.n_module,.str []),
  (.n_value,val),(.n_slot,.int sl),(.n_offset,.int 0),(.n_number,.int 0),(.n_isparam,.bool false),(.n_narrowed,.none)]
structure ScF (H : AH) (ss st sc d o ty : Addr) (pre : List V) (lv slv : Int) (lb : Tx) (m : List (Tx × V)) (l : List V) (k : Int) : Prop where
  h1 : H ss = some (scsO ty st lv)
  h2 : H st = some (.list (pre ++ [.ref sc]))
  h3 : H sc = some (scopeO slv lb d o k)
  h4 : H d = some (.sd m)
  h5 : H o = some (.list l)
  n1 : st ≠ o
theorem it_last {pre : List V} {v : V} : It (pre ++ [v]) (-((1 : Nat) : Int)) v := ⟨by
  rw [itemAt,if_neg (by omega),if_pos (by omega)]; simp⟩
theorem sset_new {m : List (Tx × V)} {n : Tx} {v : V} (h : lk m n = none) : sset m n v = m ++ [(n,v)] := by
  induction m with
  | nil => rfl
  | cons q r ih =>
    simp only [lk] at h
    split at h
    · cases h
    · next e => simp only [sset,if_neg e,ih h,List.cons_append]
section
variable {sp : Sp} (hC : Calls sp) {H : AH} {Q : Post} {ss st sc d o ty : Addr} {pre : List V} {lv slv : Int} {lb : Tx} {m : List (Tx × V)} {l : List V} {k : Int}
include hC
theorem c_newScopes (h : ∀ ss st sc d o H',H ss = none → H st = none → H sc = none → H d = none → H o = none → ScF H' ss st sc d o ty [] (-1) (-1) [] [] [] 0 → KpX [] H H' → Q (.ref ss) H') : New sp .c_Scopes [.ref ty,.str []] H Q ⟨⟩ := by
  intro ss hss
  refine hC .f_Scopes_init _ [] _ _ rfl ?_
  simp only [Fn.body,Fn.params,rhoOf,List.cons_append,List.nil_append]
  (unfold b_Scopes_init; walk_at "X")
  refine c_newScope hC fun sc d o H1 f1 f2 f3 e1 e2 e3 k1 => ?_
  have s1 := k1 _ _ put_same (by simp)
  have k00 : KpX [] H (put (put (put H ss (.inst .c_Scopes [])) ss (.inst .c_Scopes [(.n_types,.ref ty)])) ss (.inst .c_Scopes [(.n_types,.ref ty),(.n_module,.str [])])) := ((KpX.refl.putf hss).putf hss).putf hss
  have g1 := k00.fr f1 (by simp)
  have g2 := k00.fr f2 (by simp)
  have g3 := k00.fr f3 (by simp)
  have k01 := k00.trans k1
  try walk_at "X"
  intro st hst
  have g4 : H st = none := k01.fr hst (by simp)
  have n1 : ss ≠ st := nf s1 hst
  have n2 := nf e3 hst
  have nsc : sc ≠ ss := nn e1 s1 (by intro e; cases e)
  have nd : d ≠ ss := nn e2 s1 nofun
  have no : o ≠ ss := nn e3 s1 nofun
  walk_at "X"
  simp only [put_put,true_and]
  refine h ss st sc d o _ hss g4 g1 g2 g3 ⟨put_same,?_,?_,?_,?_,Ne.symm n2⟩ ((k01.putf g4).putf hss)
  · exact pt put_same (Ne.symm n1)
  · exact pt (pt e1 (nf e1 hst)) nsc
  · exact pt (pt e2 (nf e2 hst)) nd
  · exact pt (pt e3 n2) no
theorem c_add {name kind : Tx} {t val : V} {p ol sl : Int} {b : Addr} (F : ScF H ss st sc d o ty pre lv slv lb m l k) (hm : lk m name = none) (hl1 : m.length ≤ 1000) (hl2 : l.length ≤ 1000) (hb : H b = some (insO name kind t p ol val sl))
    (h : ∀ sl k' H',H' b = some (insO name kind t p ol val sl) → ScF H' ss st sc d o ty pre lv slv lb (m ++ [(name,.ref b)]) (l ++ [.ref b]) k' → KpX [sc,d,o,b] H H' → Q (.bool true) H') : sp .f_Scopes_add [.ref ss,.ref b] H Q := by
  refine hC _ _ [] _ _ rfl ?_
  obtain ⟨h1,h2,h3,h4,h5,h6⟩ := F
  have hit := it_last (pre := pre) (v := .ref sc)
  have hn : ¬ (lk m name).isSome = true := by rw [hm]; decide
  have c1 : m.length ≤ 1000000 := by omega
  have c2 : l.length < 1000000 := by omega
  have nd : sc ≠ d := nn h3 h4 nofun
  have nbd : b ≠ d := nn hb h4 nofun
  have nbo : b ≠ o := nn hb h5 nofun
  have nso : sc ≠ o := nn h3 h5 nofun
  have nod : o ≠ d := nn h5 h4 nofun
  have nbs : b ≠ sc := nn hb h3 (by intro e; cases e)
  have nss : ss ≠ sc := nn h1 h3 (by intro e; cases e)
  have nsb' : sc ≠ b := Ne.symm nbs
  have nsb : ss ≠ b := nn h1 hb (by intro e; cases e)
  simp only [Fn.body,Fn.params,rhoOf,List.cons_append,List.nil_append]
  (unfold b_Scopes_add; walk_at "X")
  rw [sset_new hm]
  have base : ∀ (k' : Int) (H2 : AH),(∀ a,a ≠ sc → a ≠ b → H2 a = put (put H d (.sd (m ++ [(name,.ref b)]))) o (.list (l ++ [.ref b])) a) → H2 sc = some (scopeO slv lb d o k') → ScF H2 ss st sc d o ty pre lv slv lb (m ++ [(name,.ref b)]) (l ++ [.ref b]) k' := by
    intro k' H2 e1 e2
    refine ⟨?_,?_,e2,?_,?_,h6⟩
    · rw [e1 _ nss nsb]; exact pt (pt h1 (nn h1 h4 nofun)) (nn h1 h5 nofun)
    · rw [e1 _ (nn h2 h3 nofun) (nn h2 hb nofun)]; exact pt (pt h2 (nn h2 h4 nofun)) h6
    · rw [e1 _ (Ne.symm nd) (Ne.symm nbd)]; exact pt put_same (Ne.symm nod)
    · rw [e1 _ (Ne.symm nso) (Ne.symm nbo)]; exact put_same
  have kb : KpX [sc,d,o,b] H (put (put H d (.sd (m ++ [(name,.ref b)]))) o (.list (l ++ [.ref b]))) := (KpX.refl.putm (by simp)).putm (by simp)
  have hb2 : put (put H d (.sd (m ++ [(name,.ref b)]))) o (.list (l ++ [.ref b])) b = some (insO name kind t p ol val sl) := pt (pt hb nbd) nbo
  have hs2 : put (put H d (.sd (m ++ [(name,.ref b)]))) o (.list (l ++ [.ref b])) sc = some (scopeO slv lb d o k) := pt (pt h3 nd) nso
  have z0 := h sl k _ hb2 (base k _ (fun _ _ _ => rfl) hs2) kb
  have z1 := h k (k + 1) (put (put (put (put H d (.sd (m ++ [(name,.ref b)]))) o (.list (l ++ [.ref b]))) b (insO name kind t p ol val k)) sc (scopeO slv lb d o (k + 1))) (pt put_same nbs) (base (k + 1) _ (fun a a1 a2 => by rw [put_ne a1,put_ne a2]) put_same) ((kb.putm (by simp)).putm (by simp))
  refine Brn.mk (fun e => ?_) fun e => ?_
  · walk_at "X"
    exact z1
  · walk_at "X"
    refine Brn.mk (fun e2 => ?_) fun e2 => ?_
    · walk_at "X"
      exact z1
    · walk_at "X"
      exact z0
end
end
section

def DictOk (H : AH) : List (Tx × V) → List (Tx × Tx × V) → Prop
  | [],[] => True
  | q :: m,u :: us => (q.1 = u.1 ∧ ∃ b mm,q.2 = .ref b ∧ H b = some (.inst .c_Obj mm) ∧ lk mm .n_kind = some (.str u.2.1) ∧ lk mm .n_type = some u.2.2) ∧ DictOk H m us
  | _,_ => False
theorem DictOk.keep {H H' : AH} (k : ∀ b mm,H b = some (.inst .c_Obj mm) → H' b = some (.inst .c_Obj mm)) : ∀ {m : List (Tx × V)} {us : List (Tx × Tx × V)},DictOk H m us → DictOk H' m us
  | [],[],_ => trivial
  | _ :: _,_ :: _,⟨⟨a,b,mm,c,d,e⟩,r⟩ => ⟨⟨a,b,mm,c,k _ _ d,e⟩,DictOk.keep k r⟩
theorem DictOk.snoc {H : AH} {n k : Tx} {b : Addr} {t : V} {mm : List (N × V)} (hb : H b = some (.inst .c_Obj mm)) (h1 : lk mm .n_kind = some (.str k)) (h2 : lk mm .n_type = some t) : ∀ {m : List (Tx × V)} {us : List (Tx × Tx × V)},DictOk H m us → DictOk H (m ++ [(n,.ref b)]) (us ++ [(n,k,t)])
  | [],[],_ => ⟨⟨rfl,b,mm,rfl,hb,h1,h2⟩,trivial⟩
  | _ :: _,_ :: _,⟨a,r⟩ => ⟨a,DictOk.snoc hb h1 h2 r⟩
theorem DictOk.len {H : AH} : ∀ {m : List (Tx × V)} {us : List (Tx × Tx × V)},DictOk H m us → m.length = us.length
  | [],[],_ => rfl
  | _ :: _,_ :: _,⟨_,r⟩ => by simp [r.len]
theorem DictOk.lkn {H : AH} {n : Tx} : ∀ {m : List (Tx × V)} {us : List (Tx × Tx × V)},DictOk H m us → lk us n = none → lk m n = none
  | [],[],_,_ => rfl
  | q :: _,u :: _,⟨⟨a,_⟩,r⟩,h => by
    simp only [lk] at h ⊢
    rw [a]
    split at h
    · cases h
    · next e => rw [if_neg e]; exact r.lkn h
theorem DictOk.lks {H : AH} {n : Tx} {x : Tx × V} : ∀ {m : List (Tx × V)} {us : List (Tx × Tx × V)},DictOk H m us → lk us n = some x → ∃ b mm,lk m n = some (.ref b) ∧ H b = some (.inst .c_Obj mm) ∧ lk mm .n_kind = some (.str x.1) ∧ lk mm .n_type = some x.2
  | [],[],_,h => nomatch h
  | q :: _,u :: _,⟨⟨a,b,mm,c,d,e⟩,r⟩,h => by
    simp only [lk] at h ⊢
    rw [a]
    split at h
    · next z => cases h; rw [if_pos z,c]; exact ⟨b,mm,rfl,d,e⟩
    · next z => rw [if_neg z]; exact r.lks h
section
variable {sp : Sp} (hC : Calls sp) {H : AH} {Q : Post} {ss st sc d o ty : Addr} {pre : List V} {lv slv : Int} {lb : Tx} {m : List (Tx × V)} {l : List V} {k : Int}
theorem ScF.mem (F : ScF H ss st sc d o ty pre lv slv lb m l k) : ∀ y ∈ [sc,d,o],∃ x,H y = some x ∧ (∀ mm,x ≠ .inst .c_Obj mm) := by
  intro y hy
  simp only [List.mem_cons,List.not_mem_nil,or_false] at hy
  rcases hy with rfl | rfl | rfl
  · exact ⟨_,F.h3,fun _ e => by cases e⟩
  · exact ⟨_,F.h4,nofun⟩
  · exact ⟨_,F.h5,nofun⟩
theorem ScF.new (F : ScF H ss st sc d o ty pre lv slv lb m l k) {b : Addr} {x : O} (hb : H b = none) : ScF (put H b x) ss st sc d o ty pre lv slv lb m l k :=
  ⟨pt F.h1 (nf F.h1 hb),pt F.h2 (nf F.h2 hb),pt F.h3 (nf F.h3 hb),pt F.h4 (nf F.h4 hb),pt F.h5 (nf F.h5 hb),F.n1⟩
theorem ScF.obj (F : ScF H ss st sc d o ty pre lv slv lb m l k) {b : Addr} {mm : List (N × V)} {x : O} (hb : H b = some (.inst .c_Obj mm)) : ScF (put H b x) ss st sc d o ty pre lv slv lb m l k :=
  ⟨pt F.h1 (nn F.h1 hb (by intro e; cases e)),pt F.h2 (nn F.h2 hb nofun),pt F.h3 (nn F.h3 hb (by intro e; cases e)),pt F.h4 (nn F.h4 hb nofun),pt F.h5 (nn F.h5 hb nofun),F.n1⟩
theorem ScF.kp (F : ScF H ss st sc d o ty pre lv slv lb m l k) {H' : AH} {xs : List Addr} (kk : KpX xs H H') (h : ∀ y ∈ [ss,st,sc,d,o],y ∉ xs) : ScF H' ss st sc d o ty pre lv slv lb m l k :=
  ⟨kk _ _ F.h1 (h _ (by simp)),kk _ _ F.h2 (h _ (by simp)),kk _ _ F.h3 (h _ (by simp)),kk _ _ F.h4 (h _ (by simp)),kk _ _ F.h5 (h _ (by simp)),F.n1⟩
theorem DictOk.ins (F : ScF H ss st sc d o ty pre lv slv lb m l k) {H' : AH} {us : List (Tx × Tx × V)} {m2 : List (Tx × V)} (D : DictOk H m2 us) (kk : KpX [sc,d,o] H H') : DictOk H' m2 us :=
  D.keep fun b mm e => kk _ _ e (by
    intro q
    obtain ⟨x,a,c⟩ := F.mem b q
    rw [a] at e; cases e; exact c _ rfl)
include hC
theorem c_insert {name kind : Tx} {t : V} {p : Int} (F : ScF H ss st sc d o ty pre lv slv lb m l k) (hm : lk m name = none) (hl1 : m.length ≤ 1000) (hl2 : l.length ≤ 1000)
    (h : ∀ b sl k' H',H b = none → H' b = some (insO name kind t p (if 0 > lv then 0 else lv) .none sl) → ScF H' ss st sc d o ty pre lv slv lb (m ++ [(name,.ref b)]) (l ++ [.ref b]) k' → KpX [sc,d,o] H H' → Q (.ref b) H') : sp .f_Scopes_insert [.ref ss,.str name,.str kind,t,.int p] H Q := by
  refine hC _ _ [] _ _ rfl ?_
  simp only [Fn.body,Fn.params,rhoOf,List.cons_append,List.nil_append]
  (unfold b_Scopes_insert; walk_at "X")
  refine c_newObj hC fun b hb => ?_
  have nb := nf F.h1 hb
  have h1 := F.h1
  have F2 : ScF (put H b (insO name kind t p (if 0 > lv then 0 else lv) .none 0)) ss st sc d o ty pre lv slv lb m l k := F.new hb
  have e1 : put H b (insO name kind t p (if 0 > lv then 0 else lv) .none 0) b = some (insO name kind t p (if 0 > lv then 0 else lv) .none 0) := put_same
  have fin : ∀ sl k' H3,H3 b = some (insO name kind t p (if 0 > lv then 0 else lv) .none sl) → ScF H3 ss st sc d o ty pre lv slv lb (m ++ [(name,.ref b)]) (l ++ [.ref b]) k' → KpX [sc,d,o,b] (put H b (insO name kind t p (if 0 > lv then 0 else lv) .none 0)) H3 → Q (.ref b) H3 :=
    fun sl k' H3 g1 g2 g3 => h b sl k' H3 hb g1 g2 fun a x ea na => g3 a x (pt ea (nf ea hb)) (by simp only [List.mem_cons,List.not_mem_nil,or_false,not_or] at na ⊢; exact ⟨na.1,na.2.1,na.2.2,nf ea hb⟩)
  by_cases hlv : 0 ≤ lv
  · walk_at "X"
    simp only [put_put]
    refine c_add hC F2 hm hl1 hl2 e1 fun sl k' H3 g1 g2 g3 => ?_
    walk_at "X"
    exact fin sl k' H3 g1 g2 g3
  · walk_at "X"
    simp only [put_put]
    refine c_add hC F2 hm hl1 hl2 e1 fun sl k' H3 g1 g2 g3 => ?_
    walk_at "X"
    exact fin sl k' H3 g1 g2 g3
theorem c_open {lb2 : Tx} {lv2 : Int} (F : ScF H ss st sc d o ty pre lv slv lb m l k) (hp : pre.length ≤ 1000) (hlv : lv2 = lv + 1)
    (h : ∀ sc' d' o' H',H sc' = none → H d' = none → H o' = none → ScF H' ss st sc' d' o' ty (pre ++ [.ref sc]) lv2 lv2 lb2 [] [] 0 → KpX [ss,st] H H' → Q (.ref sc') H') : sp .f_Scopes_open [.ref ss,.str lb2] H Q := by
  refine hC _ _ [] _ _ rfl ?_
  subst hlv
  have h1 := F.h1
  simp only [Fn.body,Fn.params,rhoOf,List.cons_append,List.nil_append]
  (unfold b_Scopes_open; walk_at "X")
  refine c_newScope hC fun sc' d' o' H1 f1 f2 f3 e1 e2 e3 k1 => ?_
  have g1 := k1 _ _ F.h1 (by simp)
  have g2 := k1 _ _ F.h2 (by simp)
  have c1 : (pre ++ [V.ref sc]).length < 1000000 := by simp; omega
  have n1 : ss ≠ st := nn g1 g2 nofun
  have n2 : sc' ≠ st := nn e1 g2 nofun
  have n3 : sc' ≠ ss := nn e1 g1 (by intro e; cases e)
  have n4 : o' ≠ st := fun e => by rw [e,F.h2] at f3; cases f3
  walk_at "X"
  refine h sc' d' o' _ f1 f2 f3 ⟨put_same,?_,?_,?_,?_,Ne.symm n4⟩ (((k1.mono (by simp)).putm (by simp)).putm (by simp))
  · exact pt put_same (Ne.symm n1)
  · exact pt (pt e1 n2) n3
  · exact pt (pt e2 (nn e2 g2 nofun)) (nn e2 g1 nofun)
  · exact pt (pt e3 n4) (nn e3 g1 nofun)
theorem c_current (F : ScF H ss st sc d o ty pre lv slv lb m l k) (h : Q (.ref sc) H) : sp .f_Scopes_current [.ref ss] H Q := by
  refine hC _ _ [] _ _ rfl ?_
  have h1 := F.h1
  have h2 := F.h2
  have hit := it_last (pre := pre) (v := .ref sc)
  simp only [Fn.body,Fn.params,rhoOf,List.cons_append,List.nil_append]
  (unfold b_Scopes_current; walk_at "X")
  exact h
end
end
section
theorem lk_app {β : Type} {n : Tx} : ∀ {us vs : List (Tx × β)},lk us n = none → lk (us ++ vs) n = lk vs n
  | [],_,_ => rfl
  | u :: us,vs,h => by
    simp only [lk] at h
    split at h
    · cases h
    · next e => simp only [List.cons_append,lk,if_neg e]; exact lk_app h
theorem DictOk.upd {H : AH} {b : Addr} {mm mm' : List (N × V)} (hb : H b = some (.inst .c_Obj mm)) (h1 : lk mm' .n_kind = lk mm .n_kind) (h2 : lk mm' .n_type = lk mm .n_type) : ∀ {m : List (Tx × V)} {us : List (Tx × Tx × V)},DictOk H m us → DictOk (put H b (.inst .c_Obj mm')) m us
  | [],[],_ => trivial
  | _ :: _,_ :: _,⟨⟨a,c,nn,d,e,f,g⟩,r⟩ => by
    refine ⟨?_,DictOk.upd hb h1 h2 r⟩
    by_cases z : c = b
    · subst z
      rw [hb] at e; cases e
      exact ⟨a,c,mm',d,put_same,h1.trans f,h2.trans g⟩
    · exact ⟨a,c,nn,d,pt e z,f,g⟩
section
variable {sp : Sp} (hC : Calls sp) {H : AH} {Q : Post} {ss st sc d o ty : Addr} {pre : List V} {lv slv : Int} {lb : Tx} {m : List (Tx × V)} {l : List V} {k : Int} {us : List (Tx × Tx × V)}
include hC
theorem c_ins {name kind : Tx} {t : V} {p : Int} (F : ScF H ss st sc d o ty pre lv slv lb m l k) (D : DictOk H m us) (hn : lk us name = none) (hl1 : us.length ≤ 1000) (hl2 : l.length = us.length)
    (h : ∀ b sl m' l' k' H',H b = none → H' b = some (insO name kind t p (if 0 > lv then 0 else lv) .none sl) → ScF H' ss st sc d o ty pre lv slv lb m' l' k' → DictOk H' m' (us ++ [(name,kind,t)]) → l'.length = us.length + 1 → KpX [sc,d,o] H H' → Q (.ref b) H') : sp .f_Scopes_insert [.ref ss,.str name,.str kind,t,.int p] H Q := by
  refine c_insert hC F (D.lkn hn) (by rw [D.len]; exact hl1) (by omega) fun b sl k' H' g1 g2 g3 g4 => ?_
  exact h b sl _ _ k' H' g1 g2 g3 ((D.ins F g4).snoc g2 rfl rfl) (by simp [hl2]) g4
theorem c_insV {name kind : Tx} {t x : V} {p : Int} {K : AH → Prop} (F : ScF H ss st sc d o ty pre lv slv lb m l k) (D : DictOk H m us) (hn : lk us name = none) (hl1 : us.length ≤ 1000) (hl2 : l.length = us.length)
    (h : ∀ b m' l' k' H',H b = none → (∃ sl,H' b = some (insO name kind t p (if 0 > lv then 0 else lv) x sl)) → ScF H' ss st sc d o ty pre lv slv lb m' l' k' → DictOk H' m' (us ++ [(name,kind,t)]) → l'.length = us.length + 1 → KpX [sc,d,o] H H' → K H') : sp .f_Scopes_insert [.ref ss,.str name,.str kind,t,.int p] H (fun v H1 => setAttrV v .n_value x H1 K) := by
  refine c_ins hC F D hn hl1 hl2 fun b sl m' l' k' H' g1 g2 g3 g4 g5 g6 => ?_
  rw [sa_r g2 ⟨by decide⟩ ⟨by simp⟩]
  exact h b m' l' k' _ g1 ⟨sl,put_same⟩ (g3.obj g2) (g4.upd g2 (by rfl) (by rfl)) g5 (g6.putf g1)
end
structure RSt (H : AH) (rd sc : Addr) (src : Tx) (er ss st s0 d o ty : Addr) (m : List (Tx × V)) (l : List V) (k : Int) (us : List (Tx × Tx × V)) (H3 : AH) (mm : List (N × V)) (p : Nat := 0) : Prop where
  f : H rd = none
  r : H3 rd = some (.inst .c_Reader mm)
  c : H3 sc = some (scO src er p)
  F : ScF H3 ss st s0 d o ty [] (-1) (-1) [] m l k
  D : DictOk H3 m us
  k : KpX [] H H3
section
variable {H : AH} {rd sc : Addr} {src : Tx} {er ss st s0 d o ty : Addr} {m : List (Tx × V)} {l : List V} {k : Int} {us : List (Tx × Tx × V)} {H3 : AH} {mm m' : List (N × V)} {p : Nat}
theorem RSt.sto (R : RSt H rd sc src er ss st s0 d o ty m l k us H3 mm p) : RSt H rd sc src er ss st s0 d o ty m l k us (put H3 rd (.inst .c_Reader m')) m' p := by
  have F := R.F
  exact ⟨R.f,put_same,pt R.c (nn R.c R.r (by intro e; cases e)),⟨pt F.h1 (nn F.h1 R.r (by intro e; cases e)),pt F.h2 (nn F.h2 R.r nofun),pt F.h3 (nn F.h3 R.r (by intro e; cases e)),pt F.h4 (nn F.h4 R.r nofun),pt F.h5 (nn F.h5 R.r nofun),F.n1⟩,
    R.D.keep fun b _ e => pt e (nn e R.r (by intro e; cases e)),R.k.putf R.f⟩
theorem RSt.alc (R : RSt H rd sc src er ss st s0 d o ty m l k us H3 mm p) {a : Addr} {x : O} (ha : H3 a = none) : RSt H rd sc src er ss st s0 d o ty m l k us (put H3 a x) mm p :=
  ⟨R.f,pt R.r (nf R.r ha),pt R.c (nf R.c ha),R.F.new ha,R.D.keep fun b _ e => pt e (nf e ha),R.k.putf (R.k.fr ha (by simp))⟩
theorem RSt.tak (R : RSt H rd sc src er ss st s0 d o ty m l k us H3 mm p) (hs : H sc = none) {tk : Addr} (ha : H3 tk = none) {p' q : Nat} {kd : Tx} {v : V} : RSt H rd sc src er ss st s0 d o ty m l k us (put (put H3 sc (scO src er p')) tk (tokO kd v q)) mm p' := by
  have F := R.F
  have R2 : RSt H rd sc src er ss st s0 d o ty m l k us (put H3 sc (scO src er p')) mm p' := ⟨R.f,pt R.r (nn R.r R.c (by intro e; cases e)),put_same,⟨pt F.h1 (nn F.h1 R.c (by intro e; cases e)),pt F.h2 (nn F.h2 R.c nofun),pt F.h3 (nn F.h3 R.c (by intro e; cases e)),pt F.h4 (nn F.h4 R.c nofun),pt F.h5 (nn F.h5 R.c nofun),F.n1⟩,
    R.D.keep fun b _ e => pt e (nn e R.c (by intro e; cases e)),R.k.putf hs⟩
  exact R2.alc (by rw [put_ne (Ne.symm (nf R.c ha))]; exact ha)
end
def stdL : List Tx := [[65,66,83],[79,68,68],[76,69,78],[76,83,76],[65,83,82],[82,79,82],[79,82,68],[67,72,82],[73,78,67],[68,69,67],[73,78,67,76],[69,88,67,76],[78,69,87],[65,83,83,69,82,84]]
def UE7 (tB tC tY tI tM : Addr) : List (Tx × Tx × V) := [([66,79,79,76,69,65,78],[116,121,112,101],.ref tB),([67,72,65,82],[116,121,112,101],.ref tC),([66,89,84,69],[116,121,112,101],.ref tY),([73,78,84,69,71,69,82],[116,121,112,101],.ref tI),([83,69,84],[116,121,112,101],.ref tM),([70,65,76,83,69],[99,111,110,115,116],.ref tB),([84,82,85,69],[99,111,110,115,116],.ref tB)]
def UE (tB tC tY tI tM tN : Addr) : List (Tx × Tx × V) := UE7 tB tC tY tI tM ++ stdL.map fun n => (n,[115,116,100],.ref tN)
section
variable {sp : Sp} (hC : Calls sp) {H : AH} {Q : Post} {ss st sc d o ty : Addr}
include hC
theorem c_fill {k : Int} {tB tC tY tI tM tN : Addr} {mt : List (N × V)} (F : ScF H ss st sc d o ty [] (-1) (-1) [] [] [] k) (ht : H ty = some (.inst .c_Types mt)) (hB : lk mt .n_boolean = some (.ref tB)) (hCh : lk mt .n_char = some (.ref tC)) (hY : lk mt .n_byte = some (.ref tY)) (hI : lk mt .n_integer = some (.ref tI)) (hM : lk mt .n_mask = some (.ref tM)) (hN : lk mt .n_none = some (.ref tN))
    (h : ∀ m l k' H',ScF H' ss st sc d o ty [] (-1) (-1) [] m l k' → DictOk H' m (UE tB tC tY tI tM tN) → KpX [sc,d,o] H H' → Q .none H') : sp .f_fill [.ref ss] H Q := by
  refine hC _ _ [] _ _ rfl ?_
  have nt : ty ∉ [sc,d,o] := by
    simp only [List.mem_cons,List.not_mem_nil,or_false,not_or]
    exact ⟨nn ht F.h3 (by intro e; cases e),nn ht F.h4 nofun,nn ht F.h5 nofun⟩
  have h1 := F.h1
  simp only [Fn.body,Fn.params,rhoOf,List.cons_append,List.nil_append]
  (unfold b_fill; walk_at "X")
  refine c_ins hC F (us := []) trivial rfl (by simp) rfl fun _ _ m1 l1 k1 H1 _ _ F1 D1 e1 x1 => ?_
  have t1 := x1 _ _ ht nt
  have s1 := F1.h1
  walk_at "X"
  refine c_ins hC F1 D1 rfl (by simp) e1 fun _ _ m2 l2 k2 H2 _ _ F2 D2 e2 x2 => ?_
  have t2 := x2 _ _ t1 nt
  have s2 := F2.h1
  walk_at "X"
  refine c_ins hC F2 D2 rfl (by simp) e2 fun _ _ m3 l3 k3 H3 _ _ F3 D3 e3 x3 => ?_
  have t3 := x3 _ _ t2 nt
  have s3 := F3.h1
  walk_at "X"
  refine c_ins hC F3 D3 rfl (by simp) e3 fun _ _ m4 l4 k4 H4 _ _ F4 D4 e4 x4 => ?_
  have t4 := x4 _ _ t3 nt
  have s4 := F4.h1
  walk_at "X"
  refine c_ins hC F4 D4 rfl (by simp) e4 fun _ _ m5 l5 k5 H5 _ _ F5 D5 e5 x5 => ?_
  have t5 := x5 _ _ t4 nt
  have s5 := F5.h1
  walk_at "X"
  refine c_insV hC F5 D5 rfl (by simp) e5 fun _ m6 l6 k6 H6 _ _ F6 D6 e6 x6 => ?_
  have t6 := x6 _ _ t5 nt
  have s6 := F6.h1
  walk_at "X"
  refine c_insV hC F6 D6 rfl (by simp) e6 fun _ m7 l7 k7 H7 _ _ F7 D7 e7 x7 => ?_
  have t7 := x7 _ _ t6 nt
  have s7 := F7.h1
  have x07 := x1.trans (x2.trans (x3.trans (x4.trans (x5.trans (x6.trans x7)))))
  walk_at "X"
  refine hC .f_std_functions [] [] _ _ rfl ?_
  simp only [Fn.body,Fn.params,rhoOf,List.cons_append,List.nil_append]
  (unfold b_std_functions; walk_at "X")
  refine hC .f_std_procedures [] [] _ _ rfl ?_
  simp only [Fn.body,Fn.params,rhoOf,List.cons_append,List.nil_append]
  (unfold b_std_procedures; walk_at "X")
  have main : ∀ (ns : List Tx) (us : List (Tx × Tx × V)) (m : List (Tx × V)) (l : List V) (k : Int) (H2 : AH) (ρ : Rho) (bq : Bq _),us ++ ns.map (fun n => (n,[115,116,100],V.ref tN)) = UE tB tC tY tI tM tN → (∀ n ∈ ns,lk us n = none) → ns.Nodup → us.length ≤ 100 → ScF H2 ss st sc d o ty [] (-1) (-1) [] m l k → DictOk H2 m us → l.length = us.length → KpX [sc,d,o] H H2 → ns.length + us.length ≤ 100 →
      ρ .n_scopes = some (.ref ss) → ρ .n_types = some (.ref ty) → FL (srcB (.tup (stdL.map V.str)) (stdL.map V.str)) (asgB .n_name) (bodyB sp [.sattr (E.meth .c_Scopes (E.loc .n_scopes) .n_insert [(E.loc .n_name),(E.str [115,116,100]),(E.attr (E.loc .n_types) .n_none),(E.int 0)]) .n_value (E.loc .n_name)]) (ns.map V.str) ρ H2 (seqK sp [] fun fl _ H' => Q (retOf fl) H') bq := by
    intro ns
    induction ns with
    | nil =>
      intro us m l k H2 ρ bq eu _ _ _ F2 D2 el x2 _ r1 r2
      refine fl_nil rfl ?_
      walk_at "X"
      rw [List.map_nil,List.append_nil] at eu
      exact h m l k H2 F2 (eu ▸ D2) x2
    | cons n ns ih =>
      intro us m l k H2 ρ bq eu hn hd hl F2 D2 el x2 hb r1 r2
      have t2 := x2 _ _ ht nt
      have s2 := F2.h1
      refine fl_cons rfl rfl ?_
      walk_at "X"
      refine c_insV hC F2 D2 (hn n List.mem_cons_self) (by omega) el fun _ m3 l3 k3 H3 _ _ F3 D3 e3 x3 => ?_
      walk_at "X"
      refine ih _ m3 l3 k3 H3 _ ⟨⟩ (by rw [← eu]; simp) (fun y hy => ?_) (List.nodup_cons.mp hd).2 (by simp at hb ⊢; omega) F3 D3 (by simpa using e3) (x2.trans x3) (by simp at hb ⊢; omega) r1 r2
      rw [lk_app (hn y (List.mem_cons_of_mem _ hy))]
      simp only [lk]
      rw [if_neg (fun (e : n = y) => (List.nodup_cons.mp hd).1 (e ▸ hy))]
  exact main stdL (UE7 tB tC tY tI tM) m7 l7 k7 H7 (put (put (fun _ => none) .n_scopes (.ref ss)) .n_types (.ref ty)) ⟨⟩ rfl (fun n hn => by
    simp only [stdL,List.mem_cons,List.not_mem_nil,or_false] at hn
    rcases hn with rfl | rfl | rfl | rfl | rfl | rfl | rfl | rfl | rfl | rfl | rfl | rfl | rfl | rfl <;> rfl) (by decide +kernel) (by simp [UE7]) F7 D7 e7 x07 (by simp [UE7,stdL]) rfl rfl
theorem c_newReader {src : Tx} {er : Addr} {r : Row} {q : List Row} {tB tC tY tI tM tN : Addr} {mt : List (N × V)} (ht : H ty = some (.inst .c_Types mt)) (hB : lk mt .n_boolean = some (.ref tB)) (hCh : lk mt .n_char = some (.ref tC)) (hY : lk mt .n_byte = some (.ref tY)) (hI : lk mt .n_integer = some (.ref tI)) (hM : lk mt .n_mask = some (.ref tM)) (hN : lk mt .n_none = some (.ref tN))
    (hx : Lex src 0 (r :: q)) (hl : src.length ≤ 700000)
    (h : ∀ rd sc tk ss st s0 d o p1 p2 p3 m l k H',H rd = none → H ss = none → H st = none → H s0 = none → H d = none → H o = none → H sc = none →
      H' rd = some (.inst .c_Reader [(.n_scanner,.ref sc),(.n_types,.ref ty),(.n_errors,.ref er),(.n_importer,.none),(.n_scopes,.ref ss),(.n_module,.str []),(.n_procs,.ref p1),(.n_records,.ref p2),(.n_forwards,.ref p3),(.n_level,.int 0),(.n_nest,.int 0),(.n_parts,.int 0),(.n_token,.ref tk)]) →
      H' sc = some (scO src er (r.2.2 + r.2.1.length : Nat)) → H' tk = some (tokO r.1 (valOf r.1 r.2.1) r.2.2) → ScF H' ss st s0 d o ty [] (-1) (-1) [] m l k → DictOk H' m (UE tB tC tY tI tM tN) → KpX [] H H' → Q (.ref rd) H') : New sp .c_Reader [.str src,.ref ty,.ref er,.none] H Q ⟨⟩ := by
  intro rd hrd
  refine hC .f_Reader_init _ [] _ _ rfl ?_
  simp only [Fn.body,Fn.params,rhoOf,List.cons_append,List.nil_append]
  (unfold b_Reader_init; walk_at "X")
  refine c_newScanner hC fun sc hsc => ?_
  have sc0 := (fresh_put hsc).1
  have nrs : rd ≠ sc := Ne.symm (fresh_put hsc).2
  walk_at "X"
  have k0 : KpX [] H (put (put (put (put (put (put H rd (.inst .c_Reader [])) sc (scO src er 0)) rd (.inst .c_Reader [(.n_scanner,.ref sc)])) rd (.inst .c_Reader [(.n_scanner,.ref sc),(.n_types,.ref ty)])) rd (.inst .c_Reader [(.n_scanner,.ref sc),(.n_types,.ref ty),(.n_errors,.ref er)]))
      rd (.inst .c_Reader [(.n_scanner,.ref sc),(.n_types,.ref ty),(.n_errors,.ref er),(.n_importer,.none)])) := (by repeat' (first | exact KpX.refl | refine KpX.putf ?_ (by assumption)))
  have r0 : put (put (put (put (put (put H rd (.inst .c_Reader [])) sc (scO src er 0)) rd (.inst .c_Reader [(.n_scanner,.ref sc)])) rd (.inst .c_Reader [(.n_scanner,.ref sc),(.n_types,.ref ty)])) rd (.inst .c_Reader [(.n_scanner,.ref sc),(.n_types,.ref ty),(.n_errors,.ref er)]))
      rd (.inst .c_Reader [(.n_scanner,.ref sc),(.n_types,.ref ty),(.n_errors,.ref er),(.n_importer,.none)]) rd = some (.inst .c_Reader [(.n_scanner,.ref sc),(.n_types,.ref ty),(.n_errors,.ref er),(.n_importer,.none)]) := put_same
  have c0 : put (put (put (put (put (put H rd (.inst .c_Reader [])) sc (scO src er 0)) rd (.inst .c_Reader [(.n_scanner,.ref sc)])) rd (.inst .c_Reader [(.n_scanner,.ref sc),(.n_types,.ref ty)])) rd (.inst .c_Reader [(.n_scanner,.ref sc),(.n_types,.ref ty),(.n_errors,.ref er)]))
      rd (.inst .c_Reader [(.n_scanner,.ref sc),(.n_types,.ref ty),(.n_errors,.ref er),(.n_importer,.none)]) sc = some (scO src er 0) := pt (pt (pt (pt put_same (Ne.symm nrs)) (Ne.symm nrs)) (Ne.symm nrs)) (Ne.symm nrs)
  generalize put (put (put (put (put (put H rd (.inst .c_Reader [])) sc (scO src er 0)) rd (.inst .c_Reader [(.n_scanner,.ref sc)])) rd (.inst .c_Reader [(.n_scanner,.ref sc),(.n_types,.ref ty)])) rd (.inst .c_Reader [(.n_scanner,.ref sc),(.n_types,.ref ty),(.n_errors,.ref er)]))
      rd (.inst .c_Reader [(.n_scanner,.ref sc),(.n_types,.ref ty),(.n_errors,.ref er),(.n_importer,.none)]) = H0 at *
  refine c_newScopes hC fun ss st s0 d o H1 f1 f2 f3 f4 f5 F1 k1 => ?_
  have r1 := k1 _ _ r0 (by simp)
  have c1 := k1 _ _ c0 (by simp)
  have k01 := k0.trans k1
  have nrss : ss ≠ rd := nn F1.h1 r1 (by intro e; cases e)
  have F1' : ScF (put H1 rd (.inst .c_Reader [(.n_scanner,.ref sc),(.n_types,.ref ty),(.n_errors,.ref er),(.n_importer,.none),(.n_scopes,.ref ss)])) ss st s0 d o ty [] (-1) (-1) [] [] [] 0 :=
    ⟨pt F1.h1 nrss,pt F1.h2 (nn F1.h2 r1 nofun),pt F1.h3 (nn F1.h3 r1 (by intro e; cases e)),pt F1.h4 (nn F1.h4 r1 nofun),pt F1.h5 (nn F1.h5 r1 nofun),F1.n1⟩
  have k02 : KpX [] H (put H1 rd (.inst .c_Reader [(.n_scanner,.ref sc),(.n_types,.ref ty),(.n_errors,.ref er),(.n_importer,.none),(.n_scopes,.ref ss)])) := k01.putf hrd
  have t1 := k02 _ _ ht (by simp)
  have c1' := pt (x := .inst .c_Reader [(.n_scanner,.ref sc),(.n_types,.ref ty),(.n_errors,.ref er),(.n_importer,.none),(.n_scopes,.ref ss)]) c1 (Ne.symm nrs)
  walk_at "X"
  refine c_fill hC F1' t1 hB hCh hY hI hM hN fun m l k H2 F2 D2 k2 => ?_
  have off : ∀ a x,H a = some x → a ∉ [s0,d,o] := fun a x e => by
    simp only [List.mem_cons,List.not_mem_nil,or_false,not_or]
    exact ⟨nf e (k0.fr f3 (by simp)),nf e (k0.fr f4 (by simp)),nf e (k0.fr f5 (by simp))⟩
  have k03 : KpX [] H H2 := fun a x e _ => k2 a x (k02 a x e (by simp)) (off a x e)
  have r2 := k2 _ _ (put_same : put H1 rd (.inst .c_Reader [(.n_scanner,.ref sc),(.n_types,.ref ty),(.n_errors,.ref er),(.n_importer,.none),(.n_scopes,.ref ss)]) rd = _) (by
    simp only [List.mem_cons,List.not_mem_nil,or_false,not_or]
    exact ⟨nn r1 F1.h3 (by intro e; cases e),nn r1 F1.h4 nofun,nn r1 F1.h5 nofun⟩)
  have c2 := k2 _ _ c1' (by
    simp only [List.mem_cons,List.not_mem_nil,or_false,not_or]
    exact ⟨nn c1 F1.h3 (by intro e; cases e),nn c1 F1.h4 nofun,nn c1 F1.h5 nofun⟩)
  have R2 : RSt H rd sc src er ss st s0 d o ty m l k (UE tB tC tY tI tM tN) H2 _ := ⟨hrd,r2,c2,F2,D2,k03⟩
  clear c0 c1 c1' t1 k01 k02 F1' F1 r1 r0 r2 F2 D2 k2 k03
  have R3 := R2.sto (m' := [(.n_scanner,.ref sc),(.n_types,.ref ty),(.n_errors,.ref er),(.n_importer,.none),(.n_scopes,.ref ss),(.n_module,.str [])])
  have r3 := R2.r
  walk_at "X"
  intro p1 hp1
  have R4 := (R3.alc (x := .list []) hp1).sto (m' := [(.n_scanner,.ref sc),(.n_types,.ref ty),(.n_errors,.ref er),(.n_importer,.none),(.n_scopes,.ref ss),(.n_module,.str []),(.n_procs,.ref p1)])
  have n1 : rd ≠ p1 := nf R3.r hp1
  walk_at "X"
  intro p2 hp2
  have R5 := (R4.alc (x := .list []) hp2).sto (m' := [(.n_scanner,.ref sc),(.n_types,.ref ty),(.n_errors,.ref er),(.n_importer,.none),(.n_scopes,.ref ss),(.n_module,.str []),(.n_procs,.ref p1),(.n_records,.ref p2)])
  have n2 : rd ≠ p2 := nf R4.r hp2
  walk_at "X"
  intro p3 hp3
  have R6 := (R5.alc (x := .list []) hp3).sto (m' := [(.n_scanner,.ref sc),(.n_types,.ref ty),(.n_errors,.ref er),(.n_importer,.none),(.n_scopes,.ref ss),(.n_module,.str []),(.n_procs,.ref p1),(.n_records,.ref p2),(.n_forwards,.ref p3)])
  have n3 : rd ≠ p3 := nf R5.r hp3
  have R7 := R6.sto (m' := [(.n_scanner,.ref sc),(.n_types,.ref ty),(.n_errors,.ref er),(.n_importer,.none),(.n_scopes,.ref ss),(.n_module,.str []),(.n_procs,.ref p1),(.n_records,.ref p2),(.n_forwards,.ref p3),(.n_level,.int 0)])
  have R8 := R7.sto (m' := [(.n_scanner,.ref sc),(.n_types,.ref ty),(.n_errors,.ref er),(.n_importer,.none),(.n_scopes,.ref ss),(.n_module,.str []),(.n_procs,.ref p1),(.n_records,.ref p2),(.n_forwards,.ref p3),(.n_level,.int 0),(.n_nest,.int 0)])
  have R9 := R8.sto (m' := [(.n_scanner,.ref sc),(.n_types,.ref ty),(.n_errors,.ref er),(.n_importer,.none),(.n_scopes,.ref ss),(.n_module,.str []),(.n_procs,.ref p1),(.n_records,.ref p2),(.n_forwards,.ref p3),(.n_level,.int 0),(.n_nest,.int 0),(.n_parts,.int 0)])
  clear R2 R3 R4 R5 R6 R7 R8 r3
  have c9 := R9.c
  have r9 := R9.r
  walk_at "X"
  refine c_take hC R9.c hl hx fun tk htk => ?_
  have R10 := R9.tak sc0 htk (p' := r.2.2 + r.2.1.length) (kd := r.1) (v := valOf r.1 r.2.1) (q := r.2.2)
  have r10 := R10.r
  have nrt : tk ≠ rd := Ne.symm (nf r9 htk)
  walk_at "X"
  have R11 := R10.sto (m' := [(.n_scanner,.ref sc),(.n_types,.ref ty),(.n_errors,.ref er),(.n_importer,.none),(.n_scopes,.ref ss),(.n_module,.str []),(.n_procs,.ref p1),(.n_records,.ref p2),(.n_forwards,.ref p3),(.n_level,.int 0),(.n_nest,.int 0),(.n_parts,.int 0),(.n_token,.ref tk)])
  refine ⟨trivial,h rd sc tk ss st s0 d o p1 p2 p3 m l k _ hrd (k0.fr f1 (by simp)) (k0.fr f2 (by simp)) (k0.fr f3 (by simp)) (k0.fr f4 (by simp)) (k0.fr f5 (by simp)) sc0 R11.r R11.c ?_ R11.F R11.D R11.k⟩
  exact pt put_same nrt
end
end
section
structure Ab where
  (ty kn tB tC tY tI tM tL tN er rw pl : Addr)
structure Ac where
  (sS sV sP sT sA i oL o1 o2 o3 : Addr)
abbrev tyX (x : Ab) (k : Int) : O := .inst .c_Types [(.n_counter,.int k),(.n_known,.ref x.kn),(.n_boolean,.ref x.tB),(.n_char,.ref x.tC),(.n_byte,.ref x.tY),(.n_integer,.ref x.tI),(.n_mask,.ref x.tM),(.n_nil,.ref x.tL),(.n_none,.ref x.tN)]
def TT (H : AH) (a : Addr) (n : Int) (form : Tx) (sz : Int) (base : V) (len : Int) (md lb : Tx) : Prop := ∃ f p q,H a = some (typeO n form sz base len f p q md lb)
theorem kx {H H' : AH} {ty kn a : Addr} {m : List (N × V)} {d : Nat} {o : O} (k : KpX [ty,kn] H H') (h1 : H ty = some (.inst .c_Types m)) (h2 : H kn = some (.td d)) (ha : H a = some o) (ho : ∀ m,o ≠ .inst .c_Types m) (ho2 : ∀ d,o ≠ .td d) : H' a = some o :=
  k _ _ ha (by simp only [List.mem_cons,List.not_mem_nil,or_false,not_or]; exact ⟨nn ha h1 (ho _),nn ha h2 (ho2 _)⟩)
theorem TT.kx {H H' : AH} {ty kn a : Addr} {m : List (N × V)} {d : Nat} {n sz len : Int} {form md lb : Tx} {b : V} (k : KpX [ty,kn] H H') (h1 : H ty = some (.inst .c_Types m)) (h2 : H kn = some (.td d)) (ha : TT H a n form sz b len md lb) : TT H' a n form sz b len md lb := by
  obtain ⟨f,p,q,e⟩ := ha; exact ⟨f,p,q,Mine.kx k h1 h2 e nofun nofun⟩
theorem TT.pf {H : AH} {a c : Addr} {o o2 : O} {n sz len : Int} {form md lb : Tx} {b : V} (h : TT H a n form sz b len md lb) (hc : H c = some o2) (hn : ∀ f p q,typeO n form sz b len f p q md lb ≠ o2) : TT (put H c o) a n form sz b len md lb := by
  obtain ⟨f,p,q,e⟩ := h; exact ⟨f,p,q,pt e (nn e hc (hn f p q))⟩
theorem BT.pf {H : AH} {a c : Addr} {o o2 : O} {n sz : Int} {form : Tx} (h : BT H a n form sz) (hc : H c = some o2) (hn : ∀ f p q,typeO n form sz .none 0 f p q [] [] ≠ o2) : BT (put H c o) a n form sz := by
  obtain ⟨f,p,q,e⟩ := h; exact ⟨f,p,q,pt e (nn e hc (hn f p q))⟩
structure WA (H : AH) (x : Ab) (pa ca : Addr) (k : Int) (d : Nat) : Prop where
  ty : H x.ty = some (tyX x k)
  kn : H x.kn = some (.td d)
  bB : BT H x.tB 1 [98,111,111,108,101,97,110] 1
  bC : BT H x.tC 2 [99,104,97,114] 1
  bY : BT H x.tY 3 [98,121,116,101] 1
  bI : BT H x.tI 4 [105,110,116,101,103,101,114] 4
  bM : BT H x.tM 5 [115,101,116] 4
  bN : BT H x.tN 7 [110,111,110,101] 0
  er : H x.er = some (.inst .c_ErrorList [(.n_rows,.ref x.rw),(.n_places,.ref x.pl)])
  rw : H x.rw = some (.list [])
  pl : H x.pl = some (.idt [])
  P : PL H pa ca
  n1 : x.rw ∉ [pa,ca]
theorem WA.keep {H H' : AH} {x : Ab} {pa ca : Addr} {k : Int} {d : Nat} (w : WA H x pa ca k d) (kk : ∀ a o,H a = some o → (a = x.rw ∨ (∀ xs,o ≠ .list xs)) → H' a = some o) (hp : PL H' pa ca) : WA H' x pa ca k d := by
  obtain ⟨a1,a2,a3,a4,a5,a6,a7,a8,a9,a10,a11,a12,a13⟩ := w
  have kb : ∀ {a n form sz},BT H a n form sz → BT H' a n form sz := fun ⟨f,p,q,e⟩ => ⟨f,p,q,kk _ _ e (.inr nofun)⟩
  exact ⟨kk _ _ a1 (.inr nofun),kk _ _ a2 (.inr nofun),kb a3,kb a4,kb a5,kb a6,kb a7,kb a8,kk _ _ a9 (.inr nofun),kk _ _ a10 (.inl rfl),kk _ _ a11 (.inr nofun),hp,a13⟩
theorem WA.new {H H' : AH} {x : Ab} {pa ca : Addr} {k : Int} {d : Nat} (w : WA H x pa ca k d) (kk : KpX [x.ty,x.kn] H H') {k' : Int} {d' : Nat} (h1 : H' x.ty = some (tyX x k')) (h2 : H' x.kn = some (.td d')) : WA H' x pa ca k' d' := by
  obtain ⟨a1,a2,a3,a4,a5,a6,a7,a8,a9,a10,a11,⟨ns,r,y,p1,p2,p3⟩,a13⟩ := w
  exact ⟨h1,h2,a3.keep kk a1 a2,a4.keep kk a1 a2,a5.keep kk a1 a2,a6.keep kk a1 a2,a7.keep kk a1 a2,a8.keep kk a1 a2,kx kk a1 a2 a9 nofun nofun,kx kk a1 a2 a10 nofun nofun,kx kk a1 a2 a11 nofun nofun,⟨ns,r,y,kx kk a1 a2 p1 nofun nofun,kx kk a1 a2 p2 nofun nofun,p3⟩,a13⟩
theorem WA.put {H : AH} {x : Ab} {pa ca : Addr} {k : Int} {d : Nat} (w : WA H x pa ca k d) {c : Addr} {n sz len : Int} {form md lb : Tx} {b : V} {f p q : Addr} {o : O} (hc : H c = some (typeO n form sz b len f p q md lb)) (hm : lb ≠ []) : WA (Mine.put H c o) x pa ca k d := by
  obtain ⟨a1,a2,a3,a4,a5,a6,a7,a8,a9,a10,a11,⟨ns,r,y,p1,p2,p3⟩,a13⟩ := w
  have e : ∀ {n' form' sz'},∀ f' p' q',typeO n' form' sz' .none 0 f' p' q' [] [] ≠ typeO n form sz b len f p q md lb := fun f' p' q' z => by
    injection z with _ z
    simp only [List.cons.injEq,Prod.mk.injEq,V.str.injEq,true_and] at z
    exact hm z.2.2.2.2.2.2.2.2.1.symm
  exact ⟨pt a1 (nn a1 hc (by intro e; cases e)),pt a2 (nn a2 hc nofun),a3.pf hc e,a4.pf hc e,a5.pf hc e,a6.pf hc e,a7.pf hc e,a8.pf hc e,pt a9 (nn a9 hc (by intro e; cases e)),pt a10 (nn a10 hc nofun),pt a11 (nn a11 hc nofun),
    ⟨ns,r,y,pt p1 (nn p1 hc nofun),pt p2 (nn p2 hc nofun),p3⟩,a13⟩
structure W0 (H : AH) (x : Ab) (y : Ac) (pa ca : Addr) : Prop where
  wa : WA H x pa ca 12 5
  fS : TT H y.sS 8 [114,101,99,111,114,100] 8 .none 0 [77] [84]
  fV : TT H y.sV 9 [97,114,114,97,121] 12 (.ref x.tI) 3 [77] [86]
  fP : TT H y.sP 10 [112,111,105,110,116,101,114] 4 (.ref y.sS) 0 [77] [80]
  fT : TT H y.sT 11 [114,101,99,111,114,100] 4 .none 0 [65] [84]
  fA : TT H y.sA 12 [112,111,105,110,116,101,114] 4 (.ref y.sT) 0 [65] [80]
  fi : ∃ im,H y.i = some (.inst .c_Interface [(.n_name,.str [65]),(.n_key,.int 1),(.n_objs,.ref y.oL),(.n_imports,.ref im)])
  fL : H y.oL = some (.list [.ref y.o1,.ref y.o2,.ref y.o3])
  f1 : H y.o1 = some (objO [84] [116,121,112,101] (.ref y.sT) 0)
  f2 : H y.o2 = some (objO [120] [118,97,114] (.ref x.tI) 0)
  f3 : H y.o3 = some (objO [80] [116,121,112,101] (.ref y.sA) 0)
  n : y.oL ≠ x.rw
  n2 : y.oL ∉ [pa,ca]
theorem W0.keep {H H' : AH} {x : Ab} {y : Ac} {pa ca : Addr} (w : W0 H x y pa ca) (k : ∀ a o,H a = some o → (a = x.rw ∨ a = y.oL ∨ ∀ xs,o ≠ .list xs) → H' a = some o) (hp : PL H' pa ca) : W0 H' x y pa ca := by
  have kt : ∀ {a n form sz b l md lb},TT H a n form sz b l md lb → TT H' a n form sz b l md lb := fun ⟨f,p,q,e⟩ => ⟨f,p,q,k _ _ e (.inr (.inr nofun))⟩
  obtain ⟨h1,h12,h13,h14,h15,h16,⟨im,h17⟩,h18,h19,h20,h21,h22,h23⟩ := w
  exact ⟨h1.keep (fun a o e z => k a o e (z.elim .inl fun z => .inr (.inr z))) hp,kt h12,kt h13,kt h14,kt h15,kt h16,
    ⟨im,k _ _ h17 (.inr (.inr nofun))⟩,k _ _ h18 (.inr (.inl rfl)),k _ _ h19 (.inr (.inr nofun)),k _ _ h20 (.inr (.inr nofun)),k _ _ h21 (.inr (.inr nofun)),h22,h23⟩
section
variable {sp : Sp} (hC : Calls sp) {H : AH} {pa ca : Addr}
include hC
theorem c_tn {Q : Post} {x : Ab} {k n' : Int} {d : Nat} {form md lb : Tx} {sz : Int} (w : WA H x pa ca k d) (hn : n' = k + 1) (hd : d ≤ 1000) (hb : lb ≠ [])
    (h : ∀ b f p q H',H b = none → H' b = some (typeO n' form sz .none 0 f p q md lb) → WA H' x pa ca n' (d + 1) → KpX [x.ty,x.kn] H H' → Q (.ref b) H') : sp .f_Types_new [.ref x.ty,.str form,.int sz,.str md,.str lb] H Q := by
  subst hn
  refine c_Types_new hC w.ty rfl rfl w.kn (by omega) (by simp) fun b f p q H' b1 b2 b3 b4 b5 => ?_
  rw [if_neg hb] at b4
  exact h b f p q H' b1 b2 (w.new b5 b3 b4) b5
theorem law_A2 {x : Ab} {ρ : Rho} {K : SPost} (w : WA H x pa ca 7 0) (r1 : ρ .n_pool = some (.ref pa)) (r2 : ρ .n_types = some (.ref x.ty)) (r3 : ρ .n_errors = some (.ref x.er))
    (h : ∀ H' y ρ',W0 H' x y pa ca → ρ' .n_pool = some (.ref pa) → ρ' .n_types = some (.ref x.ty) → ρ' .n_errors = some (.ref x.er) → ρ' .n_structure = some (.ref y.sS) → ρ' .n_fixed = some (.ref y.sV) → ρ' .n_arrow = some (.ref y.sP) → ρ' .n_strange = some (.ref y.sT) → ρ' .n_away = some (.ref y.sA) → ρ' .n_shown = some (.ref y.i) →
      wpSs sp (b_law.drop 14) ρ' H' K) : wpSs sp (b_law.drop 3) ρ H K := by
  have y0 := w.ty
  unfold b_law at h ⊢
  simp only [List.drop] at h ⊢
  walk_at "X"
  refine c_tn hC w rfl (by omega) (by simp) fun sS f8 p8 q8 H3 _ s8 w3 k8 => ?_
  have y3 := w3.ty
  walk_at "X"
  refine c_tn hC w3 (n' := 9) rfl (by omega) (by simp) fun sV f9 p9 q9 H4 _ s9 w4 k9 => ?_
  have s8 := kx k9 w3.ty w3.kn s8 nofun nofun
  have y4 := w4.ty
  have n89 : sS ≠ sV := nn s8 s9 (by intro e; injection e with _ e; simp at e)
  walk_at "X"
  have w4' := (w4.put (o := typeO 9 [97,114,114,97,121] 12 (.ref x.tI) 0 f9 p9 q9 [77] [86]) s9 (by simp)).put (o := typeO 9 [97,114,114,97,121] 12 (.ref x.tI) 3 f9 p9 q9 [77] [86]) (put_same) (by simp)
  have s8' := pt (x := typeO 9 [97,114,114,97,121] 12 (.ref x.tI) 3 f9 p9 q9 [77] [86]) (pt (x := typeO 9 [97,114,114,97,121] 12 (.ref x.tI) 0 f9 p9 q9 [77] [86]) s8 n89) n89
  have s9' : put (put H4 sV (typeO 9 [97,114,114,97,121] 12 (.ref x.tI) 0 f9 p9 q9 [77] [86])) sV (typeO 9 [97,114,114,97,121] 12 (.ref x.tI) 3 f9 p9 q9 [77] [86]) sV = some (typeO 9 [97,114,114,97,121] 12 (.ref x.tI) 3 f9 p9 q9 [77] [86]) := put_same
  have y4' := w4'.ty
  clear w4 s8 s9 y4 w3 y3 k9 k8
  walk_at "X"
  generalize put (put H4 sV (typeO 9 [97,114,114,97,121] 12 (.ref x.tI) 0 f9 p9 q9 [77] [86])) sV (typeO 9 [97,114,114,97,121] 12 (.ref x.tI) 3 f9 p9 q9 [77] [86]) = H5 at *
  refine c_tn hC w4' (n' := 10) rfl (by omega) (by simp) fun sP f10 p10 q10 H6 _ s10 w6 k10 => ?_
  have s8 := kx k10 w4'.ty w4'.kn s8' nofun nofun
  have s9 := kx k10 w4'.ty w4'.kn s9' nofun nofun
  have y6 := w6.ty
  have n1 : sS ≠ sP := nn s8 s10 (by intro e; injection e with _ e; simp at e)
  have n2 : sV ≠ sP := nn s9 s10 (by intro e; injection e with _ e; simp at e)
  walk_at "X"
  have w6' := w6.put (o := typeO 10 [112,111,105,110,116,101,114] 4 (.ref sS) 0 f10 p10 q10 [77] [80]) s10 (by simp)
  have s8' := pt (x := typeO 10 [112,111,105,110,116,101,114] 4 (.ref sS) 0 f10 p10 q10 [77] [80]) s8 n1
  have s9' := pt (x := typeO 10 [112,111,105,110,116,101,114] 4 (.ref sS) 0 f10 p10 q10 [77] [80]) s9 n2
  have s10' : put H6 sP (typeO 10 [112,111,105,110,116,101,114] 4 (.ref sS) 0 f10 p10 q10 [77] [80]) sP = some (typeO 10 [112,111,105,110,116,101,114] 4 (.ref sS) 0 f10 p10 q10 [77] [80]) := put_same
  have y6' := w6'.ty
  clear w6 s8 s9 s10 y6 w4' y4' k10 n1 n2
  walk_at "X"
  generalize put H6 sP (typeO 10 [112,111,105,110,116,101,114] 4 (.ref sS) 0 f10 p10 q10 [77] [80]) = H7 at *
  refine c_tn hC w6' (n' := 11) rfl (by omega) (by simp) fun sT f11 p11 q11 H8 _ s11 w8 k11 => ?_
  have s8 := kx k11 w6'.ty w6'.kn s8' nofun nofun
  have s9 := kx k11 w6'.ty w6'.kn s9' nofun nofun
  have s10 := kx k11 w6'.ty w6'.kn s10' nofun nofun
  have y8 := w8.ty
  clear w6' y6' s8' s9' s10' k11
  walk_at "X"
  refine c_tn hC w8 (n' := 12) rfl (by omega) (by simp) fun sA f12 p12 q12 H9 _ s12 w9 k12 => ?_
  have s8 := kx k12 w8.ty w8.kn s8 nofun nofun
  have s9 := kx k12 w8.ty w8.kn s9 nofun nofun
  have s10 := kx k12 w8.ty w8.kn s10 nofun nofun
  have s11 := kx k12 w8.ty w8.kn s11 nofun nofun
  have n1 : sS ≠ sA := nn s8 s12 (by intro e; injection e with _ e; simp at e)
  have n2 : sV ≠ sA := nn s9 s12 (by intro e; injection e with _ e; simp at e)
  have n3 : sP ≠ sA := nn s10 s12 (by intro e; injection e with _ e; simp at e)
  have n4 : sT ≠ sA := nn s11 s12 (by intro e; injection e with _ e; simp at e)
  walk_at "X"
  have w9' := w9.put (o := typeO 12 [112,111,105,110,116,101,114] 4 (.ref sT) 0 f12 p12 q12 [65] [80]) s12 (by simp)
  have s8' := pt (x := typeO 12 [112,111,105,110,116,101,114] 4 (.ref sT) 0 f12 p12 q12 [65] [80]) s8 n1
  have s9' := pt (x := typeO 12 [112,111,105,110,116,101,114] 4 (.ref sT) 0 f12 p12 q12 [65] [80]) s9 n2
  have s10' := pt (x := typeO 12 [112,111,105,110,116,101,114] 4 (.ref sT) 0 f12 p12 q12 [65] [80]) s10 n3
  have s11' := pt (x := typeO 12 [112,111,105,110,116,101,114] 4 (.ref sT) 0 f12 p12 q12 [65] [80]) s11 n4
  have s12' : put H9 sA (typeO 12 [112,111,105,110,116,101,114] 4 (.ref sT) 0 f12 p12 q12 [65] [80]) sA = some (typeO 12 [112,111,105,110,116,101,114] 4 (.ref sT) 0 f12 p12 q12 [65] [80]) := put_same
  clear w9 s8 s9 s10 s11 s12 w8 y8 k12 n1 n2 n3 n4
  generalize put H9 sA (typeO 12 [112,111,105,110,116,101,114] 4 (.ref sT) 0 f12 p12 q12 [65] [80]) = H10 at *
  refine c_newInterface hC fun i ol im H11 _ i1 ki => ?_
  have P11 := w9'.P.keep fun a o e => ki a o e (by simp)
  have w11 := w9'.keep (fun a o e _ => ki a o e (by simp)) P11
  have s8 := ki _ _ s8' (by simp)
  have s9 := ki _ _ s9' (by simp)
  have s10 := ki _ _ s10' (by simp)
  have s11 := ki _ _ s11' (by simp)
  have s12 := ki _ _ s12' (by simp)
  have y11 := w11.ty
  clear s8' s9' s10' s11' s12' ki w9' P11
  walk_at "X"
  refine c_newObj hC fun o1 h1 => ?_
  have yo1 := pt (x := objO [84] [116,121,112,101] (.ref sT) 0) y11 (nf y11 h1)
  walk_at "X"
  refine c_newObj hC fun o2 h2 => ?_
  walk_at "X"
  refine c_newObj hC fun o3 h3 => ?_
  walk_at "X"
  intro oL hL
  have k0 : KpX [] H11 (put (put (put (put H11 o1 (objO [84] [116,121,112,101] (.ref sT) 0)) o2 (objO [120] [118,97,114] (.ref x.tI) 0)) o3 (objO [80] [116,121,112,101] (.ref sA) 0)) oL (.list [.ref o1,.ref o2,.ref o3])) := by
    have k1 : KpX [] H11 (put H11 o1 (objO [84] [116,121,112,101] (.ref sT) 0)) := KpX.refl.putf h1
    have k2 := k1.putf (o := objO [120] [118,97,114] (.ref x.tI) 0) (k1.fr h2 (by simp))
    have k3 := k2.putf (o := objO [80] [116,121,112,101] (.ref sA) 0) (k2.fr h3 (by simp))
    exact k3.putf (k3.fr hL (by simp))
  have e1 : put (put (put (put H11 o1 (objO [84] [116,121,112,101] (.ref sT) 0)) o2 (objO [120] [118,97,114] (.ref x.tI) 0)) o3 (objO [80] [116,121,112,101] (.ref sA) 0)) oL (.list [.ref o1,.ref o2,.ref o3]) o1 = some (objO [84] [116,121,112,101] (.ref sT) 0) :=
    pt (pt (pt put_same (nf put_same h2)) (nf (pt put_same (nf put_same h2)) h3)) (nf (pt (pt put_same (nf put_same h2)) (nf (pt put_same (nf put_same h2)) h3)) hL)
  have e2 : put (put (put (put H11 o1 (objO [84] [116,121,112,101] (.ref sT) 0)) o2 (objO [120] [118,97,114] (.ref x.tI) 0)) o3 (objO [80] [116,121,112,101] (.ref sA) 0)) oL (.list [.ref o1,.ref o2,.ref o3]) o2 = some (objO [120] [118,97,114] (.ref x.tI) 0) :=
    pt (pt put_same (nf put_same h3)) (nf (pt put_same (nf put_same h3)) hL)
  have e3 : put (put (put (put H11 o1 (objO [84] [116,121,112,101] (.ref sT) 0)) o2 (objO [120] [118,97,114] (.ref x.tI) 0)) o3 (objO [80] [116,121,112,101] (.ref sA) 0)) oL (.list [.ref o1,.ref o2,.ref o3]) o3 = some (objO [80] [116,121,112,101] (.ref sA) 0) :=
    pt put_same (nf put_same hL)
  have eL : put (put (put (put H11 o1 (objO [84] [116,121,112,101] (.ref sT) 0)) o2 (objO [120] [118,97,114] (.ref x.tI) 0)) o3 (objO [80] [116,121,112,101] (.ref sA) 0)) oL (.list [.ref o1,.ref o2,.ref o3]) oL = some (.list [.ref o1,.ref o2,.ref o3]) := put_same
  have hL0 : H11 oL = none := by
    have k1 : KpX [] H11 (put H11 o1 (objO [84] [116,121,112,101] (.ref sT) 0)) := KpX.refl.putf h1
    have k2 := k1.putf (o := objO [120] [118,97,114] (.ref x.tI) 0) (k1.fr h2 (by simp))
    have k3 := k2.putf (o := objO [80] [116,121,112,101] (.ref sA) 0) (k2.fr h3 (by simp))
    exact k3.fr hL (by simp)
  have i2 := k0 _ _ i1 (by simp)
  generalize put (put (put (put H11 o1 (objO [84] [116,121,112,101] (.ref sT) 0)) o2 (objO [120] [118,97,114] (.ref x.tI) 0)) o3 (objO [80] [116,121,112,101] (.ref sA) 0)) oL (.list [.ref o1,.ref o2,.ref o3]) = H12 at *
  walk_at "X"
  have P12 := w11.P.keep fun a o e => k0 a o e (by simp)
  have w12 := w11.keep (fun a o e _ => k0 a o e (by simp)) P12
  have nOL : oL ∉ [pa,ca] := w11.P.off hL0
  have nrw : oL ≠ x.rw := fun e => by rw [e,w11.rw] at hL0; cases hL0
  have pi : ∀ a o,H12 a = some o → (∀ m,o ≠ .inst .c_Interface m) → put H12 i (.inst .c_Interface [(.n_name,.str [65]),(.n_key,.int 1),(.n_objs,.ref oL),(.n_imports,.ref im)]) a = some o := fun a o e z => pt e (nn e i2 (z _))
  have z := h (put H12 i (.inst .c_Interface [(.n_name,.str [65]),(.n_key,.int 1),(.n_objs,.ref oL),(.n_imports,.ref im)])) ⟨sS,sV,sP,sT,sA,i,oL,o1,o2,o3⟩
    (put (put (put (put (put (put ρ .n_structure (.ref sS)) .n_fixed (.ref sV)) .n_arrow (.ref sP)) .n_strange (.ref sT)) .n_away (.ref sA)) .n_shown (.ref i))
    ⟨?_,⟨f8,p8,q8,pi _ _ (k0 _ _ s8 (by simp)) (by intro m e; cases e)⟩,⟨f9,p9,q9,pi _ _ (k0 _ _ s9 (by simp)) (by intro m e; cases e)⟩,⟨f10,p10,q10,pi _ _ (k0 _ _ s10 (by simp)) (by intro m e; cases e)⟩,⟨f11,p11,q11,pi _ _ (k0 _ _ s11 (by simp)) (by intro m e; cases e)⟩,⟨f12,p12,q12,pi _ _ (k0 _ _ s12 (by simp)) (by intro m e; cases e)⟩,
      ⟨im,put_same⟩,pi _ _ eL nofun,pi _ _ e1 (by intro m e; cases e),pi _ _ e2 (by intro m e; cases e),pi _ _ e3 (by intro m e; cases e),nrw,nOL⟩ r1 r2 r3 rfl rfl rfl rfl rfl rfl
  · walk_at "Z"
    exact z
  · refine ⟨pi _ _ w12.ty (by intro m e; cases e),pi _ _ w12.kn nofun,w12.bB.pf i2 (by intro _ _ _ e; cases e),w12.bC.pf i2 (by intro _ _ _ e; cases e),w12.bY.pf i2 (by intro _ _ _ e; cases e),w12.bI.pf i2 (by intro _ _ _ e; cases e),w12.bM.pf i2 (by intro _ _ _ e; cases e),w12.bN.pf i2 (by intro _ _ _ e; cases e),pi _ _ w12.er (by intro m e; cases e),pi _ _ w12.rw nofun,pi _ _ w12.pl nofun,?_,w12.n1⟩
    obtain ⟨ns,r,y,p1,p2,p3⟩ := P12
    exact ⟨ns,r,y,pi _ _ p1 nofun,pi _ _ p2 nofun,p3⟩
end
end
section

def MkA (m : Mk) : Prop := ∀ q ∈ m,asc q.2 = true
theorem MkA.add {m : Mk} (h : MkA m) {p : Nat} {c : Tx} (hc : asc c = true) : MkA (addM m p c) := by
  unfold addM; split
  · exact h
  · intro q hq
    rcases List.mem_append.mp hq with hq | hq
    · exact h q hq
    · rw [List.mem_singleton.mp hq]; exact hc
theorem asc_app {a b : Tx} (h1 : asc a = true) (h2 : asc b = true) : asc (a ++ b) = true := by
  unfold asc at *; rw [List.all_append,h1,h2]; rfl
def SOk (s : PS) : Prop := Wf s.rs ∧ MkA s.ms
def TA (T : Tab) : Prop := (∀ n c,T.U n = .bad c → asc c = true) ∧ (∀ n c,T.U2 n = .bad c → asc c = true)
section
variable {T : Tab} {s : PS}
theorem SOk.step (h : SOk s) : SOk (stepS s) := ⟨h.1.tail,h.2⟩
theorem SOk.mark (h : SOk s) {p : Nat} {c : Tx} (hc : asc c = true) : SOk (markS s p c) := ⟨h.1,h.2.add hc⟩
theorem SOk.exp (h : SOk s) {k : Tx} (hk : asc k = true) : SOk (expS s k) := by
  unfold expS; split
  · exact h.step
  · exact h.mark (asc_app (by decide) hk)
theorem SOk.names : ∀ (n : Nat) {s : PS},SOk s → SOk (namesF n s).2 ∧ ∀ x ∈ (namesF n s).1,x.1 ∈ idV
  | 0,s,h => ⟨h,fun _ hx => nomatch hx⟩
  | n + 1,s,h => by
    unfold namesF
    split
    · next e =>
      have hi := h.1.idv e
      split
      · obtain ⟨a,b⟩ := SOk.names n h.step.step
        refine ⟨a,fun x hx => ?_⟩
        rcases List.mem_cons.mp hx with rfl | hx
        · exact hi
        · exact b x hx
      · exact ⟨h.step,fun x hx => by rw [List.mem_singleton.mp hx]; exact hi⟩
    · exact ⟨h.mark (by decide),fun _ hx => nomatch hx⟩
theorem SOk.pass : ∀ (n : Nat) {s : PS},SOk s → SOk (passF n s)
  | 0,_,h => h
  | n + 1,s,h => by
    unfold passF; split
    · exact SOk.pass n (h.step.exp (by decide))
    · exact h
theorem SOk.openP (h : SOk s) : SOk (openP s) := by
  unfold Mine.openP; split
  · exact SOk.pass _ (h.mark (by decide))
  · exact h
theorem SOk.typeP (hT : TA T) (h : SOk s) : SOk (typeP T s).2 := by
  unfold Mine.typeP
  split
  · split
    · exact h.step
    · next c e => exact h.step.mark (hT.1 _ _ e)
    · split
      · split
        · split
          · exact h.step.step.step
          · next c e => exact h.step.step.step.mark (hT.2 _ _ e)
          · exact h.step.step.step
        · exact h.step.step.mark (by decide)
      · exact h.step.mark (by decide)
  · exact h.mark (by decide)
theorem SOk.formalP (hT : TA T) (h : SOk s) : SOk (formalP T s).2.2 := by
  unfold Mine.formalP; split
  · exact SOk.typeP hT ((h.step.exp (by decide)).openP)
  · exact h.typeP hT
theorem SOk.varS (h : SOk s) : SOk (varS s) := by
  unfold Mine.varS; split
  · exact h.step
  · exact h
theorem SOk.resultP (hT : TA T) (h : SOk s) : SOk (resultP T s).2 := by
  unfold Mine.resultP; split
  · split
    · exact (h.step.typeP hT).mark (by decide)
    · exact h.step.typeP hT
  · exact h
end
def POk (p : Par) : Prop := p.name ∈ idV ∧ p.owner ∈ idV ∧ (p.kind = [112,97,114] ∨ p.kind = [118,97,114])
def QOk (q : QS) : Prop := SOk q.ps ∧ ∀ p ∈ q.pars,POk p
theorem QOk.enter {tk : Bool} {h : Hd} (hk : h.kind = [112,97,114] ∨ h.kind = [118,97,114]) : ∀ (xs : List (Tx × Nat)) {q : QS},QOk q → (∀ x ∈ xs,x.1 ∈ idV) → (xs ≠ [] → h.owner ∈ idV) → QOk (enterP tk h xs q)
  | [],_,hq,_,_ => hq
  | x :: xs,q,hq,hx,ho => by
    unfold enterP
    refine QOk.enter hk xs ?_ (fun y hy => hx y (List.mem_cons_of_mem _ hy)) fun _ => ho (by simp)
    split
    · exact ⟨hq.1.mark (by decide),hq.2⟩
    · refine ⟨?_,fun p hp => ?_⟩
      · simp only; split
        · exact hq.1.mark (by decide)
        · exact hq.1
      · rcases List.mem_append.mp hp with hp | hp
        · exact hq.2 p hp
        · rw [List.mem_singleton.mp hp]; exact ⟨hx x List.mem_cons_self,ho (by simp),hk⟩
theorem QOk.section {T : Tab} {tk : Bool} {q : QS} (hT : TA T) (h : QOk q) : QOk (sectionP T tk q) := by
  obtain ⟨a,b⟩ := SOk.names (varS q.ps).rs.length h.1.varS
  have c := SOk.formalP hT (a.exp (k := [58]) (by decide))
  unfold sectionP
  dsimp only
  refine QOk.enter ?_ _ ⟨⟨c.1,c.2⟩,h.2⟩ b fun hne => ?_
  · simp only [hdOf]; split
    · exact .inl rfl
    · exact .inr rfl
  · simp only [hdOf]
    cases e : (namesF (varS q.ps).rs.length (varS q.ps)).1 with
    | nil => exact absurd e hne
    | cons x r => exact b x (by rw [e]; exact List.mem_cons_self)
theorem QOk.further {T : Tab} {tk : Bool} (hT : TA T) : ∀ (n : Nat) {q : QS},QOk q → QOk (furtherF T tk n q)
  | 0,_,h => h
  | n + 1,q,h => by
    unfold furtherF; split
    · exact QOk.further hT n (QOk.section hT ⟨h.1.step,h.2⟩)
    · exact h
theorem QOk.list {T : Tab} {q : QS} (hT : TA T) (h : QOk q) : QOk (listP T q).2 := by
  simp only [listP]
  split
  · split
    · exact ⟨(h.1.step.exp (by decide)).resultP hT,h.2⟩
    · have := QOk.further (tk := false) hT (stepS q.ps).rs.length (QOk.section (tk := false) hT (q := { q with ps := stepS q.ps }) ⟨h.1.step,h.2⟩)
      exact ⟨(this.1.exp (by decide)).resultP hT,this.2⟩
  · exact h
theorem QOk.due {T : Tab} {many : Nat} {R : List Row} (hT : TA T) (h : Wf R) : QOk (dueP T many R).2 := by
  have h0 : ∀ w,QOk ⟨⟨R,[],0⟩,[],w⟩ := fun w => ⟨⟨h,fun _ h => nomatch h⟩,fun _ h => nomatch h⟩
  unfold dueP; split
  · exact QOk.section hT (h0 _)
  · exact QOk.list hT (h0 _)
def WhOk (q : QS) : Prop := ∀ p ∈ q.pars,p.which ≤ q.ps.ar
theorem datL_mk {m : Mk} (h : MkA m) : datL (mkV m) = true := by
  induction m with
  | nil => rfl
  | cons q r ih =>
    simp only [mkV,List.map_cons,datL,V.dat,Bool.and_eq_true]
    exact ⟨⟨trivial,h q List.mem_cons_self,trivial⟩,ih fun x hx => h x (List.mem_cons_of_mem _ hx)⟩
theorem depthL_mk (m : Mk) : depthL (mkV m) ≤ 1 := by
  induction m with
  | nil => exact Nat.zero_le _
  | cons q r ih =>
    simp only [mkV,List.map_cons,depthL,V.depth] at ih ⊢
    omega
theorem mixL_mk : ∀ (a b : Mk),mixL (mkV a) (mkV b) = true
  | [],[] => rfl
  | [],_ :: _ => rfl
  | _ :: _,[] => rfl
  | x :: a,y :: b => by
    have := mixL_mk a b
    simp only [mkV,List.map_cons,mixL,mix,Bool.and_eq_true] at this ⊢
    exact ⟨⟨trivial,trivial,trivial⟩,this⟩
theorem cmp_mk {a b : Mk} (h1 : MkA a) (h2 : MkA b) : comparable (mkV a) (mkV b) := ⟨datL_mk h1,datL_mk h2,mixL_mk a b,Nat.le_trans (depthL_mk a) (by omega),Nat.le_trans (depthL_mk b) (by omega)⟩
theorem idV_asc {n : Tx} (h : n ∈ idV) : asc n = true := List.all_eq_true.mp (show idV.all asc = true by decide +kernel) _ h
theorem Lex.so_asc {src : Tx} {R : List Row} {p : Nat} (h : Lex src p R) : asc (so R) = true := by
  cases R with
  | nil => decide
  | cons r q =>
    rcases h.2.2.1 with ⟨e,-⟩ | ⟨e,e2,-⟩
    · show asc r.1 = true; rw [e]; rfl
    · show asc r.1 = true; rw [e2]; exact List.all_eq_true.mp (show voc.all (fun s => asc (sortOf s)) = true by decide +kernel) _ e
end
section

theorem PRs.at {T : Tab} {label : Tx} {H : AH} : ∀ {n : Nat} {as : List Addr} {ps : List Par},PRs T label H n as ps → ∀ i (h : i < ps.length),∃ a,as[i]? = some a ∧ PR T label H a ps[i] (n + i)
  | _,[],[],_,i,h => absurd h (Nat.not_lt_zero _)
  | n,a :: as,p :: ps,h,i,hi => by
    cases i with
    | zero => exact ⟨a,rfl,h.1⟩
    | succ i =>
      obtain ⟨b,e,f⟩ := PRs.at h.2 i (by simpa using hi)
      exact ⟨b,e,by rw [Nat.add_assoc,Nat.add_comm 1] at f; exact f⟩
def chkB : List S := [.ifs (E.cmp .ne (E.tup [(E.attr (E.loc .n_par) .n_name),(E.attr (E.loc .n_par) .n_place),(E.attr (E.loc .n_par) .n_kind),(E.attr (E.loc .n_par) .n_readonly)]) (E.tup [(E.loc .n_name),(E.loc .n_where),(E.loc .n_kind),(E.loc .n_closed)])) [.ret (E.bool false)] [],.ifs (E.cmp .ne (E.tup [(E.attr (E.loc .n_par) .n_slot),(E.attr (E.loc .n_par) .n_level),(E.attr (E.loc .n_par) .n_module),(E.attr (E.loc .n_par) .n_isparam)]) (E.tup [(E.bin .add (E.loc .n_many) (E.loc .n_slot)),(E.ite (E.loc .n_inner) (E.int 1) (E.int 0)),(E.str [77]),(E.bool true)])) [.ret (E.bool false)] [],.asg .n_seen (E.attr (E.loc .n_par) .n_type),.ifs (E.cmp .gt (E.loc .n_which) (E.int 0)) [.ifs (E.cmp .ne (E.tup [(E.attr (E.loc .n_seen) .n_form),(E.attr (E.loc .n_seen) .n_length),(E.attr (E.loc .n_seen) .n_number),(E.attr (E.loc .n_seen) .n_module),(E.attr (E.loc .n_seen) .n_label)]) (E.tup [(E.str [97,114,114,97,121]),(E.neg 1),(E.bin .add (E.loc .n_before) (E.loc .n_which)),(E.str [77]),(E.bin .add (E.bin .add (E.loc .n_label) (E.str [40])) (E.loc .n_owner))])) [.ret (E.bool false)] [],.asg .n_seen (E.attr (E.loc .n_seen) .n_base)] [],.ifs (E.cmp .ne (E.attr (E.loc .n_seen) .n_number) (E.attr (E.loc .n_t) .n_number)) [.ret (E.bool false)] []]
section
variable {sp : Sp} (hC : Calls sp) {H : AH} {K : SPost}
include hC
omit hC in
theorem law_chk {T : Tab} {label : Tx} {a : Addr} {p : Par} {slot many : Nat} {inner : Bool} {ρ : Rho} (hP : PR T label H a p (many + slot)) (hok : POk p) (hl : label.length ≤ 1000) (hlv : T.lv = if inner then 1 else 0)
    (r1 : ρ .n_par = some (.ref a)) (r2 : ρ .n_name = some (.str p.name)) (r3 : ρ .n_where = some (.int p.loc)) (r4 : ρ .n_kind = some (.str p.kind)) (r5 : ρ .n_closed = some (.bool p.closed)) (r6 : ρ .n_which = some (.int p.which)) (r7 : ρ .n_t = some (.ref p.t)) (r8 : ρ .n_owner = some (.str p.owner))
    (r9 : ρ .n_many = some (.int many)) (r10 : ρ .n_slot = some (.int slot)) (r11 : ρ .n_inner = some (.bool inner)) (r12 : ρ .n_before = some (.int 13)) (r13 : ρ .n_label = some (.str label))
    (hla : asc label = true) (k : ∀ ρ',(∀ n,n ≠ .n_seen → ρ' n = ρ n) → K .next ρ' H) : wpSs sp chkB ρ H K := by
  obtain ⟨tt,h1,⟨h2,mt,l,t1,t2,t3,t4,t5⟩,-⟩ := hP
  obtain ⟨o1,o2,o3⟩ := hok
  have an := idV_asc o1
  have ao := idV_asc o2
  have ak : asc p.kind = true := by rcases o3 with e | e <;> rw [e] <;> decide
  have on : p.owner.length ≤ 10 := by have := List.all_eq_true.mp idV_len _ o2; simpa using this
  have c1 : comparable [V.str p.name,V.int p.loc,V.str p.kind,V.bool p.closed] [V.str p.name,V.int p.loc,V.str p.kind,V.bool p.closed] :=
    ⟨by simp [datL,V.dat,an,ak],by simp [datL,V.dat,an,ak],by simp [mixL,mix],by simp [depthL,V.depth],by simp [depthL,V.depth]⟩
  have c2 : ∀ i j i' j' : Int,comparable [V.int i,V.int j,V.str [77],V.bool true] [V.int i',V.int j',V.str [77],V.bool true] := fun i j i' j' =>
    ⟨by simp [datL,V.dat,asc],by simp [datL,V.dat,asc],by simp [mixL,mix],by simp [depthL,V.depth],by simp [depthL,V.depth]⟩
  have alo : asc (label ++ [40] ++ p.owner) = true := asc_app (asc_app hla (by decide)) ao
  have c3 : ∀ i j i' j' : Int,comparable [V.str [97,114,114,97,121],V.int i,V.int j,V.str [77],V.str (label ++ [40] ++ p.owner)] [V.str [97,114,114,97,121],V.int i',V.int j',V.str [77],V.str (label ++ [40] ++ p.owner)] := fun i j i' j' =>
    ⟨by simp [datL,V.dat,asc] at alo ⊢; exact alo,by simp [datL,V.dat,asc] at alo ⊢; exact alo,by simp [mixL,mix],by simp [depthL,V.depth],by simp [depthL,V.depth]⟩
  have ll1 : label.length + [40].length ≤ 10000000 := by simp; omega
  have ll2 : (label ++ [40]).length + p.owner.length ≤ 10000000 := by simp; omega
  have es : ((many + slot : Nat) : Int) = (many : Int) + (slot : Int) := by omega
  have el : T.lv = if inner then 1 else 0 := hlv
  rw [es,el] at h1
  have last : ∀ (ρ : Rho),ρ .n_seen = some (.ref p.t) → ρ .n_t = some (.ref p.t) → K .next ρ H → wpSs sp (chkB.drop 4) ρ H K := by
    intro ρ s1 s2 k
    unfold chkB
    simp only [List.drop]
    walk_at "X"
    exact k
  have third : ∀ (ρ' : Rho),(∀ n,n ≠ .n_seen → ρ' n = ρ n) → wpSs sp (chkB.drop 2) ρ' H K := by
    intro ρ' hρ
    have q1 := (hρ .n_par (by decide)).trans r1
    have q6 := (hρ .n_which (by decide)).trans r6
    have q7 := (hρ .n_t (by decide)).trans r7
    have q8 := (hρ .n_owner (by decide)).trans r8
    have q12 := (hρ .n_before (by decide)).trans r12
    have q13 := (hρ .n_label (by decide)).trans r13
    unfold chkB at last ⊢
    simp only [List.drop] at last ⊢
    by_cases hw : 0 < p.which
    · rw [if_pos hw] at h2
      obtain ⟨f,pp,qq,e⟩ := h2
      have hw' : (0 : Int) < (p.which : Int) := by omega
      have ew : ((13 + p.which : Nat) : Int) = 13 + (p.which : Int) := by omega
      rw [ew] at e
      have c3' := c3 (-1) (13 + p.which) (-((1 : Nat) : Int)) (13 + p.which)
      have z := last (put (put ρ' .n_seen (.ref tt)) .n_seen (.ref p.t)) rfl q7 (k _ fun n hn => by rw [put_ne hn,put_ne hn]; exact hρ n hn)
      walk_at "Z"
      exact z
    · rw [if_neg hw] at h2
      subst h2
      have hw' : ¬ (0 : Int) < (p.which : Int) := by omega
      have z := last (put ρ' .n_seen (.ref p.t)) rfl q7 (k _ fun n hn => by rw [put_ne hn]; exact hρ n hn)
      walk_at "Z"
      exact z
  have z := third ρ fun _ _ => rfl
  unfold chkB at z ⊢
  simp only [List.drop] at z
  cases inner with
  | true =>
    have c2' := c2 ((many : Int) + slot) 1 ((many : Int) + slot) 1
    simp only [if_true] at h1
    walk_at "Z"
    exact z
  | false =>
    have c2' := c2 ((many : Int) + slot) 0 ((many : Int) + slot) 0
    simp only [Bool.false_eq_true,if_false] at h1
    walk_at "Z"
    exact z
end
end
section
section
variable {sp : Sp} (hC : Calls sp) {H : AH}
include hC
theorem law_fin {c : Cx} {T : Tab} {label : Tx} {pre : List Addr} {taken inner : Bool} {q : QS} {fd md ma pal b st sc d o : Addr} {f qq : Addr} {n sz : Int} {form md0 lb : Tx} {pr : List V} {lv slv kk : Int} {lb2 : Tx} {mm : List (Tx × V)} {ol : List V} {ρ : Rho} {mb : List (N × V)} {nb : Int}
    (hS : RS c q.ps H) (hF : FI c T label pre taken fd q H) (hQ : QOk q) (hma : H ma = some (.list (mkV q.ps.ms))) (hpal : H pal = some (.list (q.pars.map parV))) (hmd : H md = some (typeO n form sz (.ref b) 0 f fd qq md0 lb)) (hb : H b = some (.inst .c_Type mb)) (hnb : lk mb .n_number = some (.int nb))
    (hSc : ScF H c.ss st sc d o c.ty pr lv slv lb2 mm ol kk) (hol : ol.length ≤ 1000) (hl : label.length ≤ 1000) (hla : asc label = true) (hlv : T.lv = if inner then 1 else 0) (hpl : q.pars.length ≤ 10000) (hpre : pre.length ≤ 100)
    (r1 : ρ .n_errors = some (.ref c.er)) (r2 : ρ .n_marks = some (.ref ma)) (r3 : ρ .n_rd = some (.ref c.rd)) (r4 : ρ .n_last = some (.tup [.str (so q.ps.rs),.str (sg q.ps.rs),.int (spo q.ps.rs)])) (r5 : ρ .n_told = some (.ref fd)) (r6 : ρ .n_pars = some (.ref pal)) (r7 : ρ .n_made = some (.ref md)) (r8 : ρ .n_back = some (.ref b))
    (r9 : ρ .n_types = some (.ref c.ty)) (r10 : ρ .n_before = some (.int 13)) (r11 : ρ .n_arrays = some (.int q.ps.ar)) (r12 : ρ .n_there = some (.int ol.length)) (r13 : ρ .n_many = some (.int pre.length)) (r14 : ρ .n_inner = some (.bool inner)) (r15 : ρ .n_label = some (.str label)) :
    wpSs sp (b_law.drop 31) ρ H (fun fl _ _ => retOf fl = .bool true) := by
  obtain ⟨tk,h1,h2⟩ := id hS.tk
  have h3 := hS.er
  have h4 := hS.rw
  have h5 := hS.ty
  obtain ⟨p0,hlx⟩ := hS.lx
  have hasc := hlx.so_asc
  obtain ⟨ps,hfd,hPR⟩ := id hF.ps
  have hlen := hPR.len
  have c1 : comparable (mkV q.ps.ms) (mkV q.ps.ms) := cmp_mk hQ.1.2 hQ.1.2
  have c2 : comparable [V.str (so q.ps.rs),V.int (spo q.ps.rs)] [V.str (so q.ps.rs),V.int (spo q.ps.rs)] := ⟨by simp [datL,V.dat,hasc],by simp [datL,V.dat,hasc],by simp [mixL,mix],by simp [depthL,V.depth],by simp [depthL,V.depth]⟩
  have l1 : ((pre ++ ps).map V.ref).length ≤ 10000000 := by simp; omega
  have l2 : (q.pars.map parV).length ≤ 10000000 := by simp; omega
  have e1 : (((pre ++ ps).map V.ref).length : Int) = (pre.length : Int) + ((q.pars.map parV).length : Nat) := by simp [hlen]
  have e2 : ((13 + q.ps.ar : Nat) : Int) = 13 + (q.ps.ar : Int) := by omega
  have s1 := hSc.h1
  have s5 := hSc.h5
  have s3 := hSc.h3
  have l3 : ol.length ≤ 10000000 := by omega
  unfold b_law
  simp only [List.drop]
  walk_at "X"
  refine c_current hC hSc ?_
  have l4 : (-1000 : Int) ≤ ((q.pars.map parV).length : Nat) ∧ (((q.pars.map parV).length : Nat) : Int) ≤ 1000000 := ⟨by omega,by simp; omega⟩
  walk_at "X"
  have main : ∀ (m : Nat) (i : Nat) (H2 : AH) (ρ2 : Rho) (bq : Bq _),i + m = q.pars.length → KpX [] H H2 → (∀ n ∈ [N.n_told,.n_pars,.n_made,.n_many,.n_inner,.n_before,.n_label],ρ2 n = ρ n) →
      FL (fun _ => True) (asgB .n_slot) (bodyB sp [.unpk [.n_name,.n_where,.n_kind,.n_closed,.n_which,.n_t,.n_owner] (E.idx (E.loc .n_pars) (E.loc .n_slot)),.forS .n_par (E.list [(E.idx (E.loc .n_told) (E.bin .add (E.loc .n_many) (E.loc .n_slot))),(E.idx (E.attr (E.loc .n_made) .n_params) (E.bin .add (E.loc .n_many) (E.loc .n_slot)))]) [.ifs (E.cmp .ne (E.tup [(E.attr (E.loc .n_par) .n_name),(E.attr (E.loc .n_par) .n_place),(E.attr (E.loc .n_par) .n_kind),(E.attr (E.loc .n_par) .n_readonly)]) (E.tup [(E.loc .n_name),(E.loc .n_where),(E.loc .n_kind),(E.loc .n_closed)])) [.ret (E.bool false)] [],.ifs (E.cmp .ne (E.tup [(E.attr (E.loc .n_par) .n_slot),(E.attr (E.loc .n_par) .n_level),(E.attr (E.loc .n_par) .n_module),(E.attr (E.loc .n_par) .n_isparam)]) (E.tup [(E.bin .add (E.loc .n_many) (E.loc .n_slot)),(E.ite (E.loc .n_inner) (E.int 1) (E.int 0)),(E.str [77]),(E.bool true)])) [.ret (E.bool false)] [],.asg .n_seen (E.attr (E.loc .n_par) .n_type),.ifs (E.cmp .gt (E.loc .n_which) (E.int 0)) [.ifs (E.cmp .ne (E.tup [(E.attr (E.loc .n_seen) .n_form),(E.attr (E.loc .n_seen) .n_length),(E.attr (E.loc .n_seen) .n_number),(E.attr (E.loc .n_seen) .n_module),(E.attr (E.loc .n_seen) .n_label)]) (E.tup [(E.str [97,114,114,97,121]),(E.neg 1),(E.bin .add (E.loc .n_before) (E.loc .n_which)),(E.str [77]),(E.bin .add (E.bin .add (E.loc .n_label) (E.str [40])) (E.loc .n_owner))])) [.ret (E.bool false)] [],.asg .n_seen (E.attr (E.loc .n_seen) .n_base)] [],.ifs (E.cmp .ne (E.attr (E.loc .n_seen) .n_number) (E.attr (E.loc .n_t) .n_number)) [.ret (E.bool false)] []]]) ((List.range' i m).map fun i : Nat => V.int (i : Int)) ρ2 H2 (seqK sp [.ret (E.bool true)] fun fl _ _ => retOf fl = .bool true) bq := by
    intro m
    induction m with
    | zero =>
      intro i H2 ρ2 bq _ _ _
      refine fl_nil trivial ?_
      walk_at "X"
    | succ m ih =>
      intro i H2 ρ2 bq hi hk hρ
      have q5 := (hρ .n_told (by simp)).trans r5
      have q6 := (hρ .n_pars (by simp)).trans r6
      have q7 := (hρ .n_made (by simp)).trans r7
      have q10 := (hρ .n_before (by simp)).trans r10
      have q13 := (hρ .n_many (by simp)).trans r13
      have q14 := (hρ .n_inner (by simp)).trans r14
      have q15 := (hρ .n_label (by simp)).trans r15
      have g1 := hk _ _ hpal (by simp)
      have g2 := hk _ _ hfd (by simp)
      have g3 := hk _ _ hmd (by simp)
      have hi2 : i < q.pars.length := by omega
      obtain ⟨a,ea,hPa⟩ := hPR.at i hi2
      have hok := hQ.2 _ (List.getElem_mem hi2)
      generalize hpe : q.pars[i] = p at *
      have it1 : It (q.pars.map parV) (i : Int) (.tup [.str p.name,.int p.loc,.str p.kind,.bool p.closed,.int p.which,.ref p.t,.str p.owner]) := ⟨itemAt_nat (by rw [List.getElem?_map,List.getElem?_eq_getElem hi2,hpe]; rfl) (by omega)⟩
      have it2 : It ((pre ++ ps).map V.ref) ((pre.length : Int) + (i : Int)) (.ref a) := ⟨by
        rw [show (pre.length : Int) + (i : Int) = ((pre.length + i : Nat) : Int) by omega]
        refine itemAt_nat ?_ (by omega)
        rw [List.getElem?_map,List.getElem?_append_right (by omega),show pre.length + i - pre.length = i by omega,ea]; rfl⟩
      rw [show List.range' i (m + 1) = i :: List.range' (i + 1) m from rfl,List.map_cons]
      refine fl_cons trivial rfl ?_
      walk_at "X"
      intro l hl'
      have hk3 : KpX [] H (put H2 l (.list [.ref a,.ref a])) := hk.putf (hk.fr hl' (by simp))
      have hl3 : put H2 l (.list [.ref a,.ref a]) l = some (.list [.ref a,.ref a]) := put_same
      generalize put H2 l (.list [.ref a,.ref a]) = H3 at *
      have z : Fz H H3 := fun x k m e _ => hk3 _ _ e (by simp)
      have hP3 := hPa.fz z
      walk_at "X"
      refine fl_cons (by simp only [srcB,itemsOfV,hl3]) rfl ?_
      refine law_chk (inner := inner) (slot := i) (many := pre.length) hP3 hok hl hlv rfl rfl rfl rfl rfl rfl rfl rfl q13 rfl q14 q10 q15 hla fun ρ3 hρ3 => ?_
      rw [fk_n]
      have g := fun (n : N) (h : n ≠ .n_seen) => hρ3 n h
      refine fl_cons (by simp only [srcB,itemsOfV,hl3]) rfl ?_
      refine law_chk (inner := inner) (slot := i) (many := pre.length) hP3 hok hl hlv rfl ?_ ?_ ?_ ?_ ?_ ?_ ?_ ?_ ?_ ?_ ?_ ?_ hla fun ρ4 hρ4 => ?_
      any_goals (rw [put_ne (by decide),g _ (by decide)])
      any_goals first | rfl | exact q13 | exact q14 | exact q10 | exact q15
      rw [fk_n]
      refine fl_nil (by simp only [srcB,itemsOfV,hl3]) ?_
      walk_at "X"
      refine ih (i + 1) H3 ρ4 ⟨⟩ (by omega) hk3 fun n hn => ?_
      simp only [List.mem_cons,List.not_mem_nil,or_false] at hn
      have hh := hρ n (by simpa using hn)
      rcases hn with rfl | rfl | rfl | rfl | rfl | rfl | rfl <;> (rw [hρ4 _ (by decide),put_ne (by decide),g _ (by decide)]; exact hh)
  have z := main q.pars.length 0 H ρ ⟨⟩ (by omega) .refl fun _ _ => rfl
  have er : (List.range ((q.pars.map parV).length : Int).toNat).map (fun i : Nat => V.int (i : Int)) = (List.range' 0 q.pars.length).map fun i : Nat => V.int (i : Int) := by
    rw [List.range_eq_range']; simp
  rw [er]
  exact z
end
end
section
theorem TyOk.ty {T : Tab} {H : AH} {a x : Addr} {n sz len : Int} {form md lb : Tx} {b0 b1 : V} {f p r f' p' r' : Addr} (ha : H a = some (typeO n form sz b0 len f p r md lb)) (h : TyOk T H x) : TyOk T (put H a (typeO n form sz b1 len f' p' r' md lb)) x := by
  obtain ⟨m,l,h1,h2,h3,h4,h5⟩ := h
  by_cases e : x = a
  · subst e
    rw [ha] at h1; cases h1
    exact ⟨_,l,put_same,h2,h3,h4,h5⟩
  · exact ⟨m,l,pt h1 e,h2,h3,h4,h5⟩
theorem PRs.ty {T : Tab} {label : Tx} {H : AH} {a : Addr} {n sz : Int} {form md lb : Tx} {b0 b1 : V} {f p r f' p' r' : Addr} (ha : H a = some (typeO n form sz b0 0 f p r md lb)) : ∀ {k : Nat} {as : List Addr} {ps : List Par},PRs T label H k as ps → PRs T label (put H a (typeO n form sz b1 0 f' p' r' md lb)) k as ps
  | _,[],[],_ => trivial
  | _,x :: _,y :: _,h => by
    refine ⟨?_,PRs.ty ha h.2⟩
    obtain ⟨⟨tt,e,⟨e2,e3⟩,e4⟩,-⟩ := h
    refine ⟨tt,pt e (nn e ha nofun),⟨?_,e3.ty ha⟩,e4⟩
    split
    · next w =>
      rw [if_pos w] at e2
      obtain ⟨f',p',q',e2⟩ := e2
      exact ⟨f',p',q',pt e2 (nn e2 ha fun z => by injection z with _ z; simp at z)⟩
    · next w => rw [if_neg w] at e2; exact e2
theorem WOk.ty {H : AH} {a x : Addr} {w : Nat} {n sz len : Int} {form md lb : Tx} {b0 b1 : V} {f p r f' p' r' : Addr} (ha : H a = some (typeO n form sz b0 len f p r md lb)) (h : WOk H x w) : WOk (put H a (typeO n form sz b1 len f' p' r' md lb)) x w := by
  obtain ⟨m,k,tt,mt,g,l,h1,h2,h3,h4,h5,h6,h7⟩ := h
  by_cases e : tt = a
  · subst e
    rw [ha] at h4; cases h4
    exact ⟨m,k,tt,_,g,l,pt h1 (nn h1 ha nofun),h2,h3,put_same,h5,h6,h7⟩
  · exact ⟨m,k,tt,mt,g,l,pt h1 (nn h1 ha nofun),h2,h3,pt h4 e,h5,h6,h7⟩
theorem FI.ty {c : Cx} {T : Tab} {label : Tx} {pre : List Addr} {taken : Bool} {fd : Addr} {q : QS} {H : AH} (h : FI c T label pre taken fd q H) {a : Addr} {n sz : Int} {form md lb : Tx} {b0 : V} (b1 : V) {f p r f' p' r' : Addr} (ha : H a = some (typeO n form sz b0 0 f p r md lb)) (hfa : fd ≠ a) :
    FI c T label pre taken fd q (put H a (typeO n form sz b1 0 f' p' r' md lb)) := by
  obtain ⟨h1,h2,h3,⟨ps,h4,h5⟩,h6,h7⟩ := h
  exact ⟨h1,h2,fun x hx => by obtain ⟨⟨m,e,e2⟩,w⟩ := h3 x hx; exact ⟨⟨m,pt e (nn e ha nofun),e2⟩,w.ty ha⟩,⟨ps,pt h4 hfa,h5.ty ha⟩,h6,h7⟩
section
variable {sp : Sp} (hC : Calls sp) {H : AH}
include hC
theorem law_D {c : Cx} {T : Tab} {label : Tx} {inner : Bool} {many : Nat} {R : List Row} {ra mn st sc d o sS : Addr} {pr : List V} {lv slv kk : Int} {lb2 : Tx} {mm : List (Tx × V)} {ol : List V} {m : List (Tx × V)} {ρ : Rho} {tk : Addr} {fs ps qs : Addr} {mN : List (N × V)} {nN : Int}
    (h1 : H c.rd = some (rdO c tk)) (h2 : H tk = some (tokO (so R) (valOf (so R) (sg R)) (spo R))) (h3 : H c.sc = some (scO c.src c.er (spo R + (sg R).length : Nat))) (h4 : H c.er = some (erO c)) (h5 : H c.rw = some (.list [])) (h6 : H c.pl = some (.idt [])) (h7 : H c.ty = some (tyO c 12)) (h8 : H c.kn = some (.td 5))
    (hlx : Lex c.src 0 R) (hne : R ≠ []) (hl : c.src.length ≤ 10000) (hRl : R.length ≤ 100) (hE : Env c T H) (hM : MeanOk T m) (hra : H ra = some (.list (R.map rowV))) (hmn : H mn = some (.sd m)) (hu : ∀ n ∈ idV,∀ a,T.U n = .ty a → TyOk T H a) (hu2 : ∀ n ∈ idV,∀ a,T.U2 n = .ty a → TyOk T H a)
    (hSc : ScF H c.ss st sc d o c.ty pr lv slv lb2 mm ol kk) (hol : ol.length ≤ 1000) (hoc : o ≠ c.rw) (hstc : st ≠ c.rw) (hlab : label = [76] ∨ label = [80,47,81]) (hlv : T.lv = if inner then 1 else 0) (hmy : many ≤ 31) (hsS : H sS = some (typeO 8 [114,101,99,111,114,100] 8 .none 0 fs ps qs [77] [84])) (htN : H c.tN = some (.inst .c_Type mN)) (hnN : lk mN .n_number = some (.int nN)) (hra2 : ra ≠ c.rw)
    (r1 : ρ .n_types = some (.ref c.ty)) (r2 : ρ .n_errors = some (.ref c.er)) (r3 : ρ .n_structure = some (.ref sS)) (r4 : ρ .n_rd = some (.ref c.rd)) (r5 : ρ .n_rows = some (.ref ra)) (r6 : ρ .n_meanings = some (.ref mn)) (r7 : ρ .n_label = some (.str label)) (r8 : ρ .n_inner = some (.bool inner)) (r9 : ρ .n_many = some (.int many)) :
    wpSs sp (b_law.drop 26) ρ H (fun fl _ _ => retOf fl = .bool true) := by
  have hlb : label ≠ [] := by rcases hlab with e | e <;> rw [e] <;> simp
  have hll : label.length ≤ 1000 := by rcases hlab with e | e <;> rw [e] <;> simp
  have hla : asc label = true := by rcases hlab with e | e <;> rw [e] <;> decide
  have hTA : TA T := ⟨fun n c e => by
      have := hM.c n c e; simp only [List.mem_cons,List.not_mem_nil,or_false] at this
      rcases this with e | e | e <;> rw [e] <;> decide,fun n c e => by
      have := hM.c2 n c e; simp only [List.mem_cons,List.not_mem_nil,or_false] at this
      rcases this with e | e <;> rw [e] <;> decide⟩
  have hwf : Wf R := hlx.wf (by omega)
  have s1 := hSc.h1
  have s5 := hSc.h5
  have s3 := hSc.h3
  have fin := @law_fin sp hC
  unfold b_law at fin ⊢
  simp only [List.drop] at fin ⊢
  walk_at "X"
  refine c_current hC hSc ?_
  have l3 : ol.length ≤ 10000000 := by omega
  walk_at "X"
  refine c_Types_new hC h7 rfl rfl h8 (by omega) (by simp) fun md f p q H1 m1 m2 m3 m4 m5 => ?_
  rw [if_neg hlb] at m4
  have m2 : H1 md = some (typeO 13 [112,114,111,99] 4 .none 0 f p q [77] label) := m2
  have g : ∀ a x,H a = some x → (∀ m,x ≠ .inst .c_Types m) → (∀ d,x ≠ .td d) → H1 a = some x := fun a x e z1 z2 => m5 _ _ e (by
    simp only [List.mem_cons,List.not_mem_nil,or_false,not_or]; exact ⟨nn e h7 (z1 _),nn e h8 (z2 _)⟩)
  have hS : RS c ⟨R,[],0⟩ H1 := ⟨⟨tk,g _ _ h1 (by intro m e; cases e) nofun,g _ _ h2 (by intro m e; cases e) nofun⟩,g _ _ h3 (by intro m e; cases e) nofun,g _ _ h4 (by intro m e; cases e) nofun,g _ _ h5 nofun nofun,g _ _ h6 nofun nofun,m3,m4,⟨0,hlx⟩,hne,List.nodup_nil,fun _ h => (nomatch h),by omega⟩
  have hE1 : ∀ H',KpS c md H1 H' → Env c T H' := fun H' k => hE.keep2
    (fun a x m e z => k _ _ (g _ _ e (by intro m e; rcases z with rfl | rfl | rfl | rfl | rfl <;> cases e) nofun) (hS.nm (g _ _ e (by intro m e; rcases z with rfl | rfl | rfl | rfl | rfl <;> cases e) nofun) (by rcases z with rfl | rfl | rfl | rfl | rfl <;> rfl)) (nf e m1))
    (fun a m e => k _ _ (g _ _ e nofun nofun) (hS.nm (g _ _ e nofun nofun) rfl) (nf e m1))
    (fun a xs e n => k _ _ (g _ _ e nofun nofun) (hS.nml (g _ _ e nofun nofun) n) (nf e m1))
  have hti := (hE1 H1 .refl).ti
  have htn := (hE1 H1 .refl).tn
  have gt : ∀ {a},TyOk T H a → TyOk T H1 a := fun ⟨m,l,a,b⟩ => ⟨m,l,g _ _ a (by intro m e; cases e) nofun,b⟩
  have hra1 := g _ _ hra nofun nofun
  have hmn1 := g _ _ hmn nofun nofun
  have hSc1 : ScF H1 c.ss st sc d o c.ty pr lv slv lb2 mm ol kk := ⟨g _ _ hSc.h1 (by intro m e; cases e) nofun,g _ _ hSc.h2 nofun nofun,g _ _ hSc.h3 (by intro m e; cases e) nofun,g _ _ hSc.h4 nofun nofun,g _ _ hSc.h5 nofun nofun,hSc.n1⟩
  have hsS1 := g _ _ hsS (by intro m e; cases e) nofun
  have htN1 := g _ _ htN (by intro m e; cases e) nofun
  have nmS : sS ≠ md := nf hsS m1
  have nmN : c.tN ≠ md := nf htN m1
  have m3' : H1 c.ty = some (tyO c 13) := m3
  clear hE h1 h2 h3 h4 h5 h6 s1 s3 s5
  walk_at "X"
  rw [← hti.1,← htn]
  refine c_due hC (T := T) (m := m) (many := many) hra1 hmn1 hwf hne hM (by omega) (hti.1 ▸ hti.2) (fun n hn a e => gt (hu n hn a e)) (fun n hn a e => gt (hu2 n hn a e)) (by omega) fun H2 pal ma p1 p2 p3 p4 p5 p6 p7 ppl p8 => ?_
  have kx2 : ∀ a x,H1 a = some x → H2 a = some x := fun a x e => p8 _ _ e (by simp)
  have kp2 : Kp c H1 H2 := fun a x e _ => kx2 a x e
  have hS2 : RS c ⟨R,[],0⟩ H2 := by
    obtain ⟨⟨tk,a1,a2⟩,a3,a4,a5,a6,a7,a8,a9,a10,a11,a12,a13⟩ := hS
    exact ⟨⟨tk,kx2 _ _ a1,kx2 _ _ a2⟩,kx2 _ _ a3,kx2 _ _ a4,kx2 _ _ a5,kx2 _ _ a6,kx2 _ _ a7,kx2 _ _ a8,a9,a10,a11,a12,a13⟩
  have kS2 : KpS c md H1 H2 := kp2.s
  have hSc2 : ScF H2 c.ss st sc d o c.ty pr lv slv lb2 mm ol kk := ⟨kx2 _ _ hSc1.h1,kx2 _ _ hSc1.h2,kx2 _ _ hSc1.h3,kx2 _ _ hSc1.h4,kx2 _ _ hSc1.h5,hSc1.n1⟩
  have hm2 := kx2 _ _ m2
  have hsS2 := kx2 _ _ hsS1
  have htN2 := kx2 _ _ htN1
  have hQ := QOk.due (T := T) (many := many) (R := R) hTA hwf
  have npal : pal ≠ c.rw := Ne.symm (nf hS.rw p1)
  have nma : ma ≠ c.rw := Ne.symm (nf hS.rw p2)
  have two : ∀ (H8 : AH) (q : QS) (b fd : Addr) (pre : List Addr) (taken : Bool) (f8 : Addr) (mb : List (N × V)) (nb : Int) (ρ8 : Rho),q = (dueP T many R).2 → b = (dueP T many R).1 → pre.length = many → RS c q.ps H8 → FI c T label pre taken fd q H8 → KpS c md H1 H8 → H8 ma = some (.list (mkV q.ps.ms)) → H8 pal = some (.list (q.pars.map parV)) →
      H8 md = some (typeO 13 [112,114,111,99] 4 (.ref b) 0 f fd f8 [77] label) → H8 b = some (.inst .c_Type mb) → lk mb .n_number = some (.int nb) →
      ρ8 = put (putAll (put (put (put ρ .n_there (.int ol.length)) .n_made (.ref md)) .n_before (.int 13)) [.n_pars,.n_arrays,.n_back,.n_marks,.n_last] [.ref pal,.int q.ps.ar,.ref b,.ref ma,.tup [.str (so q.ps.rs),.str (sg q.ps.rs),.int (spo q.ps.rs)]]) .n_told (.ref fd) → _ := fun H8 q b fd pre taken f8 mb nb ρ8 eq eb epre hS8 hF8 k8 hma8 hpal8 hmd8 hb8 hnb8 eρ =>
    fin (c := c) (T := T) (label := label) (pre := pre) (taken := taken) (inner := inner) (q := q) (fd := fd) (md := md) (ma := ma) (pal := pal) (b := b) (ρ := ρ8) hS8 hF8 (eq ▸ hQ) hma8 hpal8 hmd8 hb8 hnb8
      (ScF.mk (k8 _ _ hSc1.h1 (hS.nm hSc1.h1 rfl) (nn hSc1.h1 m2 (by intro e; cases e))) (k8 _ _ hSc1.h2 (hS.nml hSc1.h2 hstc) (nn hSc1.h2 m2 nofun)) (k8 _ _ hSc1.h3 (hS.nm hSc1.h3 rfl) (nn hSc1.h3 m2 (by intro e; cases e))) (k8 _ _ hSc1.h4 (hS.nm hSc1.h4 rfl) (nn hSc1.h4 m2 nofun)) (k8 _ _ hSc1.h5 (hS.nml hSc1.h5 hoc) (nn hSc1.h5 m2 nofun)) hSc1.n1)
      hol hll hla hlv (by rw [eq]; omega) (by omega) (by subst eρ; exact r2) (by subst eρ; rfl) (by subst eρ; exact r4) (by subst eρ; rfl) (by subst eρ; rfl) (by subst eρ; rfl) (by subst eρ; rfl) (by subst eρ; rfl) (by subst eρ; exact r1) (by subst eρ; rfl) (by subst eρ; rfl) (by subst eρ; rfl) (by subst eρ; rw [epre]; exact r9) (by subst eρ; exact r8) (by subst eρ; exact r7)
  by_cases hm : (0 : Int) < (many : Int)
  · have hm' : 0 < many := by omega
    have hd : dueP T many R = (T.tn,sectionP T true ⟨⟨R,[],0⟩,[],2 * many⟩) := by rw [dueP,if_pos hm']
    have cm : (0 : Int) ≤ many ∧ (many : Int) ≤ 1000 := ⟨by omega,by omega⟩
    rw [hd] at two p4 p5 hQ ppl
    dsimp only at two
    walk_at "X"
    refine c_newObj hC fun b0 hb0 => ?_
    walk_at "X"
    intro cl hcl
    walk_at "X"
    intro fd hfd
    have hb1 : put (put H2 b0 (objO [97,48] [112,97,114] (.ref sS) 0)) cl (.list [.ref b0]) b0 = some (objO [97,48] [112,97,114] (.ref sS) 0) := pt put_same (nf put_same hcl)
    have k3 : ∀ a x,H2 a = some x → put (put (put H2 b0 (objO [97,48] [112,97,114] (.ref sS) 0)) cl (.list [.ref b0])) fd (.list (List.replicate (many : Int).toNat (.ref b0))) a = some x := fun a x e =>
      pt (pt (pt e (nf e hb0)) (nf (pt e (nf e hb0)) hcl)) (nf (pt (pt e (nf e hb0)) (nf (pt e (nf e hb0)) hcl)) hfd)
    have nfd2 : ∀ a x,H2 a = some x → a ≠ fd := fun a x e => nf (pt (pt e (nf e hb0)) (nf (pt e (nf e hb0)) hcl)) hfd
    have hS5 := ((hS2.new (o := objO [97,48] [112,97,114] (.ref sS) 0) hb0).new (o := .list [.ref b0]) hcl).new (o := .list (List.replicate (many : Int).toNat (.ref b0))) hfd
    have hfd5 : put (put (put H2 b0 (objO [97,48] [112,97,114] (.ref sS) 0)) cl (.list [.ref b0])) fd (.list (List.replicate (many : Int).toNat (.ref b0))) fd = some (.list ((List.replicate many b0 ++ []).map V.ref)) := by rw [put_same]; simp
    have hb5 := pt (x := .list (List.replicate (many : Int).toNat (V.ref b0))) hb1 (nf hb1 hfd)
    have fd1 : H1 fd = none := by
      cases e : H1 fd with
      | none => rfl
      | some x => have := pt (x := .list [.ref b0]) (pt (x := objO [97,48] [112,97,114] (.ref sS) 0) (kx2 _ _ e) (nf (kx2 _ _ e) hb0)) (nf (pt (kx2 _ _ e) (nf (kx2 _ _ e) hb0)) hcl); rw [this] at hfd; cases hfd
    have k15 : KpS c md H1 _ := fun a x e n m => k3 a x (kx2 a x e)
    generalize put (put (put H2 b0 (objO [97,48] [112,97,114] (.ref sS) 0)) cl (.list [.ref b0])) fd (.list (List.replicate (many : Int).toNat (.ref b0))) = H5 at *
    have nfd : fd ≠ c.rw := Ne.symm (nf hS.rw fd1)
    have fmd : fd ≠ md := Ne.symm (nf m2 fd1)
    have hrep : ∀ a ∈ List.replicate many b0,a = b0 := fun a ha => (List.mem_replicate.mp ha).2
    have hF5 : FI c T label (List.replicate many b0) true fd ⟨⟨R,[],0⟩,[],2 * many⟩ H5 := ⟨nfd,by simp; omega,fun a ha => by
        rw [hrep a ha]
        exact ⟨⟨_,hb5,rfl⟩,⟨_,_,sS,_,_,_,hb5,rfl,rfl,k3 _ _ hsS2,rfl,rfl,rfl⟩⟩,⟨[],hfd5,trivial⟩,by simp,by simp; omega⟩
    have tk5 := hS5.tk
    walk_at "X"
    refine c_section hC (q := ⟨⟨R,[],0⟩,[],2 * many⟩) hS5 (hE1 H5 k15) hF5 (by dsimp only; omega) (by simp; omega) hll fun H6 hS6 hF6 hk6 => ?_
    have k16 : KpS c md H1 H6 := k15.sub hk6 fd1
    have md6 := hk6 _ _ (k3 _ _ hm2) (hS5.nm (k3 _ _ hm2) rfl) (Ne.symm fmd)
    have hty6 := hS6.ty
    have hS7 := hS6.putfree (o := typeO 13 [112,114,111,99] 4 .none 0 f fd q [77] label) md6 (by decide)
    have hty7 := hS7.ty
    have hS8 := hS7.putfree (o := typeO 13 [112,114,111,99] 4 (.ref c.tN) 0 f fd q [77] label) put_same (by decide)
    have hF7 := hF6.ty (b1 := .none) (f' := f) (p' := fd) (r' := q) md6 fmd
    have hF8 := hF7.ty (b1 := .ref c.tN) (f' := f) (p' := fd) (r' := q) put_same fmd
    have k18 := (k16.putd (o := typeO 13 [112,114,111,99] 4 .none 0 f fd q [77] label)).putd (o := typeO 13 [112,114,111,99] 4 (.ref c.tN) 0 f fd q [77] label)
    have oth : ∀ {a xs},H2 a = some (.list xs) → a ≠ c.rw → a ≠ fd → put (put H6 md (typeO 13 [112,114,111,99] 4 .none 0 f fd q [77] label)) md (typeO 13 [112,114,111,99] 4 (.ref c.tN) 0 f fd q [77] label) a = some (.list xs) := fun e n1 n2 =>
      pt (pt (hk6 _ _ (k3 _ _ e) (hS5.nml (k3 _ _ e) n1) n2) (nn e hm2 nofun)) (nn e hm2 nofun)
    have htN8 : put (put H6 md (typeO 13 [112,114,111,99] 4 .none 0 f fd q [77] label)) md (typeO 13 [112,114,111,99] 4 (.ref c.tN) 0 f fd q [77] label) c.tN = some (.inst .c_Type mN) :=
      pt (pt (hk6 _ _ (k3 _ _ htN2) (hS5.nm (k3 _ _ htN2) rfl) (nfd2 _ _ htN2)) nmN) nmN
    have tnn : T.tn = c.tN := htn
    have hma8 := oth p5 nma (nfd2 _ _ p5)
    have hpal8 := oth p4 npal (nfd2 _ _ p4)
    rw [hd]
    have z := two _ (sectionP T true ⟨⟨R,[],0⟩,[],2 * many⟩) c.tN fd (List.replicate many b0) true q mN nN _ rfl tnn.symm (by simp) hS8 hF8 k18 hma8 hpal8 put_same htN8 hnN rfl
    rw [tnn]
    generalize sectionP T true ⟨⟨R,[],0⟩,[],2 * many⟩ = qq at *
    walk_at "Z"
    exact z
  · have hm' : many = 0 := by omega
    have hd : dueP T many R = listP T ⟨⟨R,[],0⟩,[],0⟩ := by rw [dueP,if_neg (by omega)]
    rw [hd] at two p4 p5 hQ ppl ⊢
    walk_at "X"
    refine c_parameters hC (label := label) hS2 (hE1 H2 kS2) hm2 ⟨fun H' k => hE1 H' (kS2.trans k)⟩ (by simp; omega) hll fun fd H3 f1 hS3 hF3 md3 hb3 k3 => ?_
    have k13 := kS2.trans k3
    have npf : ∀ a x,H2 a = some x → a ≠ fd := fun a x e => nf e f1
    have hma3 := k3 _ _ p5 (hS2.nml p5 nma) (nn p5 hm2 nofun)
    have hpal3 := k3 _ _ p4 (hS2.nml p4 npal) (nn p4 hm2 nofun)
    have htN3 := k3 _ _ htN2 (hS2.nm htN2 rfl) nmN
    obtain ⟨mb,nb,hb,hnb⟩ : ∃ mb nb,H3 (listP T ⟨⟨R,[],0⟩,[],0⟩).1 = some (.inst .c_Type mb) ∧ lk mb .n_number = some (.int nb) := by
      rcases hb3 with e | ⟨mt,l,a1,a2,a3,-⟩
      · rw [e,htn]; exact ⟨mN,nN,htN3,hnN⟩
      · exact ⟨mt,_,a1,a3⟩
    have z := two _ _ _ fd [] false q mb nb _ rfl rfl (by simp [hm']) hS3 hF3 k13 hma3 hpal3 md3 hb hnb rfl
    generalize listP T ⟨⟨R,[],0⟩,[],0⟩ = qq at *
    walk_at "Z"
    exact z
end
end
section
def formOf (H : AH) (a : Addr) : Tx := match H a with
  | some (.inst .c_Type m) => (match lk m .n_form with | some (.str f) => f | _ => [])
  | _ => []
def numOf (H : AH) (a : Addr) : Nat := match H a with
  | some (.inst .c_Type m) => (match lk m .n_number with | some (.int i) => i.toNat | _ => 0)
  | _ => 0
def UL (x : Ab) (y : Ac) (inner : Bool) : List (Tx × Use) := [([73,78,84,69,71,69,82],.ty x.tI),([67,72,65,82],.ty x.tC),([66,89,84,69],.ty x.tY),([83,69,84],.ty x.tM),([66,79,79,76,69,65,78],.ty x.tB),([84],.ty y.sS),([86],.ty y.sV),([80],if inner then .bad [110,111,116,95,97,95,116,121,112,101] else .ty y.sP),
  ([87],.bad [114,101,99,117,114,115,105,118,101,95,116,121,112,101]),([120],.bad [110,111,116,95,97,95,116,121,112,101]),([70],.bad [110,111,116,95,97,95,116,121,112,101]),([84,82,85,69],.bad [110,111,116,95,97,95,116,121,112,101]),([65,66,83],.bad [110,111,116,95,97,95,116,121,112,101]),([65],.mod)]
def UL2 (y : Ac) : List (Tx × Use) := [([84],.ty y.sT),([80],.ty y.sA),([120],.bad [110,111,116,95,97,95,116,121,112,101])]
def mkT (H : AH) (x : Ab) (y : Ac) (inner : Bool) : Tab := ⟨fun n => (lk (UL x y inner) n).getD (.bad [117,110,100,101,102,105,110,101,100]),fun n => (lk (UL2 y) n).getD (.bad [110,111,116,95,101,120,112,111,114,116,101,100]),formOf H,numOf H,x.tI,x.tN,if inner then 1 else 0⟩
def tyV (a : Addr) : V := .tup [.str [116,121,112,101],.ref a]
def badV (c : Tx) : V := .tup [.str c,.none]
def mList (x : Ab) (y : Ac) (p : V) : List (Tx × V) := [([73,78,84,69,71,69,82],tyV x.tI),([67,72,65,82],tyV x.tC),([66,89,84,69],tyV x.tY),([83,69,84],tyV x.tM),([66,79,79,76,69,65,78],tyV x.tB),([84],tyV y.sS),([86],tyV y.sV),([80],p),([87],badV [114,101,99,117,114,115,105,118,101,95,116,121,112,101]),
  ([120],badV [110,111,116,95,97,95,116,121,112,101]),([70],badV [110,111,116,95,97,95,116,121,112,101]),([84,82,85,69],badV [110,111,116,95,97,95,116,121,112,101]),([65,66,83],badV [110,111,116,95,97,95,116,121,112,101]),([65],badV [109,111,100,117,108,101]),([65,46,84],tyV y.sT),([65,46,80],tyV y.sA),([65,46,120],badV [110,111,116,95,97,95,116,121,112,101])]
theorem lk_mem {β : Type} {n : Tx} {v : β} : ∀ {l : List (Tx × β)},lk l n = some v → ∃ k,(k,v) ∈ l
  | [],h => nomatch h
  | q :: r,h => by
    simp only [lk] at h
    split at h
    · cases h; exact ⟨q.1,List.mem_cons_self⟩
    · obtain ⟨k,hk⟩ := lk_mem h; exact ⟨k,List.mem_cons_of_mem _ hk⟩
theorem mean_ok {H : AH} {x : Ab} {y : Ac} {inner : Bool} : MeanOk (mkT H x y inner) (mList x y (if inner then badV [110,111,116,95,97,95,116,121,112,101] else tyV y.sP)) := by
  refine ⟨fun n hn => ?_,fun n hn => ?_,fun n c e => ?_,fun n c e => ?_,fun n e => ?_⟩
  · simp only [idV,List.mem_cons,List.not_mem_nil,or_false] at hn
    cases inner <;> rcases hn with rfl | rfl | rfl | rfl | rfl | rfl | rfl | rfl | rfl | rfl | rfl | rfl | rfl | rfl | rfl | rfl | rfl | rfl | rfl | rfl | rfl | rfl | rfl | rfl <;> rfl
  · simp only [idV,List.mem_cons,List.not_mem_nil,or_false] at hn
    cases inner <;> rcases hn with rfl | rfl | rfl | rfl | rfl | rfl | rfl | rfl | rfl | rfl | rfl | rfl | rfl | rfl | rfl | rfl | rfl | rfl | rfl | rfl | rfl | rfl | rfl | rfl <;> rfl
  · simp only [mkT] at e
    cases h : lk (UL x y inner) n with
    | none => rw [h] at e; injection e with e; rw [← e]; decide
    | some v =>
      rw [h] at e
      have e : v = .bad c := e
      subst e
      obtain ⟨k,hk⟩ := lk_mem h
      simp only [UL,List.mem_cons,Prod.mk.injEq,List.not_mem_nil,or_false] at hk
      cases inner <;> rcases hk with ⟨-,h⟩ | ⟨-,h⟩ | ⟨-,h⟩ | ⟨-,h⟩ | ⟨-,h⟩ | ⟨-,h⟩ | ⟨-,h⟩ | ⟨-,h⟩ | ⟨-,h⟩ | ⟨-,h⟩ | ⟨-,h⟩ | ⟨-,h⟩ | ⟨-,h⟩ | ⟨-,h⟩ <;> first | (cases h; done) | (injection h with h; rw [h]; decide) | (simp at h; done) | (simp at h; rw [h]; decide)
  · simp only [mkT] at e
    cases h : lk (UL2 y) n with
    | none => rw [h] at e; injection e with e; rw [← e]; decide
    | some v =>
      rw [h] at e
      have e : v = .bad c := e
      subst e
      obtain ⟨k,hk⟩ := lk_mem h
      simp only [UL2,List.mem_cons,Prod.mk.injEq,List.not_mem_nil,or_false] at hk
      rcases hk with ⟨-,h⟩ | ⟨-,h⟩ | ⟨-,h⟩ <;> first | (cases h; done) | (injection h with h; rw [h]; decide)
  · simp only [mkT] at e
    cases h : lk (UL2 y) n with
    | none => rw [h] at e; cases e
    | some v =>
      rw [h] at e
      have e : v = .mod := e
      subst e
      obtain ⟨k,hk⟩ := lk_mem h
      simp only [UL2,List.mem_cons,Prod.mk.injEq,List.not_mem_nil,or_false] at hk
      rcases hk with ⟨-,h⟩ | ⟨-,h⟩ | ⟨-,h⟩ <;> cases h
theorem tyok_of {H H2 : AH} {x : Ab} {y : Ac} {inner : Bool} {a : Addr} {n sz len : Int} {form md lb : Tx} {b : V} {f p q : Addr} (e : H a = some (typeO n form sz b len f p q md lb)) (hn : 0 ≤ n) (hl : 0 ≤ len) (hk : H2 a = H a)
    (hf : form ∈ ([[98,111,111,108,101,97,110],[99,104,97,114],[98,121,116,101],[105,110,116,101,103,101,114],[115,101,116],[112,111,105,110,116,101,114],[97,114,114,97,121],[114,101,99,111,114,100]] : List Tx)) : TyOk (mkT H x y inner) H2 a := by
  have ef : formOf H a = form := by simp only [formOf,e]; rfl
  have en : numOf H a = n.toNat := by simp only [numOf,e]; rfl
  refine ⟨_,len.toNat,hk.trans e,?_,?_,?_,?_⟩
  · show _ = some (V.str (formOf H a)); rw [ef]; rfl
  · show _ = some (V.int (numOf H a)); rw [en,Int.toNat_of_nonneg hn]; rfl
  · rw [Int.toNat_of_nonneg hl]; rfl
  · show formOf H a ∈ _; rw [ef]; exact hf
def lookU : List (List (Tx × Tx × V)) → Tx → Option (Tx × V)
  | [],_ => none
  | u :: r,n => match lookU r n with
    | some v => some v
    | none => lk u n
def DictsOk (H : AH) : Scp → List (List (Tx × Tx × V)) → Prop
  | [],[] => True
  | q :: r,u :: us => DictOk H q.2.2 u ∧ DictsOk H r us
  | _,_ => False
theorem look_spec {H : AH} {n : Tx} : ∀ {scs : Scp} {us : List (List (Tx × Tx × V))},DictsOk H scs us → (lookU us n = none → look scs n = none) ∧ (∀ x,lookU us n = some x → ∃ b mm,look scs n = some (.ref b) ∧ H b = some (.inst .c_Obj mm) ∧ lk mm .n_kind = some (.str x.1) ∧ lk mm .n_type = some x.2)
  | [],[],_ => ⟨fun _ => rfl,fun _ h => nomatch h⟩
  | q :: r,u :: us,⟨h1,h2⟩ => by
    obtain ⟨i1,i2⟩ := look_spec (n := n) h2
    cases e : lookU us n with
    | none =>
      have l0 := i1 e
      refine ⟨fun h => ?_,fun x h => ?_⟩
      · simp only [lookU,e] at h; simp only [look,l0]; exact h1.lkn h
      · simp only [lookU,e] at h; simp only [look,l0]; exact h1.lks h
    | some v =>
      obtain ⟨b,mm,l1,l2⟩ := i2 v e
      refine ⟨fun h => ?_,fun x h => ?_⟩
      · simp only [lookU,e] at h; cases h
      · simp only [lookU,e] at h; cases h; simp only [look,l1]; exact ⟨b,mm,rfl,l2⟩
def UM (x : Ab) (y : Ac) : List (Tx × Tx × V) := [([84],[116,121,112,101],.ref y.sS),([86],[116,121,112,101],.ref y.sV),([80],[116,121,112,101],.ref y.sP),([87],[116,121,112,101],.ref x.tN),([120],[118,97,114],.ref x.tC),([70],[112,114,111,99],.ref x.tN),([65],[109,111,100,117,108,101],.ref x.tN)]
def UQ (y : Ac) : List (Tx × Tx × V) := [([80],[118,97,114],.ref y.sP)]
def UX (x : Ab) (y : Ac) (inner : Bool) : List (List (Tx × Tx × V)) := UE x.tB x.tC x.tY x.tI x.tM x.tN :: UM x y :: (if inner then [UQ y] else [])
section
variable {H H2 : AH} {x : Ab} {y : Ac} {pa ca : Addr} {inner : Bool}
theorem mk_ty (w : W0 H x y pa ca) (k : ∀ a k m,H a = some (.inst k m) → (k = .c_Obj ∨ k = .c_Type ∨ k = .c_Interface) → H2 a = some (.inst k m)) : ∀ a ∈ [x.tI,x.tC,x.tY,x.tM,x.tB,y.sS,y.sV,y.sP,y.sT,y.sA],TyOk (mkT H x y inner) H2 a := by
  have g : ∀ {a n form sz b len md lb},TT H a n form sz b len md lb → 0 ≤ n → 0 ≤ len → form ∈ ([[98,111,111,108,101,97,110],[99,104,97,114],[98,121,116,101],[105,110,116,101,103,101,114],[115,101,116],[112,111,105,110,116,101,114],[97,114,114,97,121],[114,101,99,111,114,100]] : List Tx) → TyOk (mkT H x y inner) H2 a := fun ⟨f,p,q,e⟩ a b c => tyok_of e a b ((k _ _ _ e (by simp)).trans e.symm) c
  have g2 : ∀ {a n form sz},BT H a n form sz → 0 ≤ n → form ∈ ([[98,111,111,108,101,97,110],[99,104,97,114],[98,121,116,101],[105,110,116,101,103,101,114],[115,101,116],[112,111,105,110,116,101,114],[97,114,114,97,121],[114,101,99,111,114,100]] : List Tx) → TyOk (mkT H x y inner) H2 a := fun ⟨f,p,q,e⟩ a c => tyok_of e a (by decide) ((k _ _ _ e (by simp)).trans e.symm) c
  intro a ha
  simp only [List.mem_cons,List.not_mem_nil,or_false] at ha
  rcases ha with rfl | rfl | rfl | rfl | rfl | rfl | rfl | rfl | rfl | rfl
  · exact g2 w.wa.bI (by decide) (by decide)
  · exact g2 w.wa.bC (by decide) (by decide)
  · exact g2 w.wa.bY (by decide) (by decide)
  · exact g2 w.wa.bM (by decide) (by decide)
  · exact g2 w.wa.bB (by decide) (by decide)
  · exact g w.fS (by decide) (by decide) (by decide)
  · exact g w.fV (by decide) (by decide) (by decide)
  · exact g w.fP (by decide) (by decide) (by decide)
  · exact g w.fT (by decide) (by decide) (by decide)
  · exact g w.fA (by decide) (by decide) (by decide)
theorem mk_u (n : Tx) (a : Addr) (e : (mkT H x y inner).U n = .ty a) : a ∈ [x.tI,x.tC,x.tY,x.tM,x.tB,y.sS,y.sV,y.sP,y.sT,y.sA] := by
  simp only [mkT] at e
  cases h : lk (UL x y inner) n with
  | none => rw [h] at e; cases e
  | some v =>
    rw [h] at e
    have e : v = .ty a := e
    subst e
    obtain ⟨k,hk⟩ := lk_mem h
    simp only [UL,List.mem_cons,Prod.mk.injEq,List.not_mem_nil,or_false] at hk
    cases inner <;> rcases hk with ⟨-,h⟩ | ⟨-,h⟩ | ⟨-,h⟩ | ⟨-,h⟩ | ⟨-,h⟩ | ⟨-,h⟩ | ⟨-,h⟩ | ⟨-,h⟩ | ⟨-,h⟩ | ⟨-,h⟩ | ⟨-,h⟩ | ⟨-,h⟩ | ⟨-,h⟩ | ⟨-,h⟩ <;> first | (cases h; simp; done) | (cases h; done) | (simp at h; done) | (simp at h; subst h; simp)
theorem mk_u2 (n : Tx) (a : Addr) (e : (mkT H x y inner).U2 n = .ty a) : a ∈ [x.tI,x.tC,x.tY,x.tM,x.tB,y.sS,y.sV,y.sP,y.sT,y.sA] := by
  simp only [mkT] at e
  cases h : lk (UL2 y) n with
  | none => rw [h] at e; cases e
  | some v =>
    rw [h] at e
    have e : v = .ty a := e
    subst e
    obtain ⟨k,hk⟩ := lk_mem h
    simp only [UL2,List.mem_cons,Prod.mk.injEq,List.not_mem_nil,or_false] at hk
    rcases hk with ⟨-,h⟩ | ⟨-,h⟩ | ⟨-,h⟩ <;> first | (cases h; simp; done) | (cases h; done)
end
end
section
section
variable {H H2 : AH} {x : Ab} {y : Ac} {pa ca : Addr} {inner : Bool}
theorem den2_ok (w : W0 H x y pa ca) (k : ∀ a k m,H a = some (.inst k m) → (k = .c_Obj ∨ k = .c_Type ∨ k = .c_Interface) → H2 a = some (.inst k m)) {n : Tx} (hn : n ∈ idV) : Den2 (mkT H x y inner) H2 [.ref y.o1,.ref y.o2,.ref y.o3] n ((mkT H x y inner).U2 n) := by
  have ty := mk_ty (inner := inner) w k
  have g1 := k _ _ _ w.f1 (by simp)
  have g2 := k _ _ _ w.f2 (by simp)
  have g3 := k _ _ _ w.f3 (by simp)
  have un : n ≠ [84] → n ≠ [120] → n ≠ [80] → Den2 (mkT H x y inner) H2 [.ref y.o1,.ref y.o2,.ref y.o3] n (.bad [110,111,116,95,101,120,112,111,114,116,101,100]) := fun a b c => .un fun v hv => by
    simp only [List.mem_cons,List.not_mem_nil,or_false] at hv
    rcases hv with rfl | rfl | rfl
    · exact ⟨_,_,_,rfl,g1,rfl,Ne.symm a⟩
    · exact ⟨_,_,_,rfl,g2,rfl,Ne.symm b⟩
    · exact ⟨_,_,_,rfl,g3,rfl,Ne.symm c⟩
  by_cases e1 : n = [84]
  · subst e1
    exact .so y.o1 _ _ _ [] [.ref y.o2,.ref y.o3] rfl (fun _ h => nomatch h) g1 rfl rfl (.inl ⟨rfl,y.sT,rfl,rfl,ty _ (by simp)⟩)
  · by_cases e2 : n = [120]
    · subst e2
      exact .so y.o2 _ _ _ [.ref y.o1] [.ref y.o3] rfl (fun v hv => by rw [List.mem_singleton.mp hv]; exact ⟨_,_,_,rfl,g1,rfl,by decide⟩) g2 rfl rfl (.inr ⟨by decide,rfl⟩)
    · by_cases e3 : n = [80]
      · subst e3
        refine .so y.o3 _ _ _ [.ref y.o1,.ref y.o2] [] rfl (fun v hv => ?_) g3 rfl rfl (.inl ⟨rfl,y.sA,rfl,rfl,ty _ (by simp)⟩)
        simp only [List.mem_cons,List.not_mem_nil,or_false] at hv
        rcases hv with rfl | rfl
        · exact ⟨_,_,_,rfl,g1,rfl,by decide⟩
        · exact ⟨_,_,_,rfl,g2,rfl,by decide⟩
      · have : (mkT H x y inner).U2 n = .bad [110,111,116,95,101,120,112,111,114,116,101,100] := by
          simp only [mkT,UL2,lk,if_neg (Ne.symm e1),if_neg (Ne.symm e2),if_neg (Ne.symm e3)]; rfl
        rw [this]
        exact un e1 e2 e3
theorem env_ok {c : Cx} {scs : Scp} {st home : Addr} {ol sl : Int} (w : W0 H x y pa ca) (k : ∀ a k m,H a = some (.inst k m) → (k = .c_Obj ∨ k = .c_Type ∨ k = .c_Interface) → H2 a = some (.inst k m)) (kL : H2 y.oL = H y.oL)
    (c1 : c.rw = x.rw) (c2 : c.tI = x.tI) (c3 : c.tN = x.tN) (hss : H2 c.ss = some (scsO c.ty st (if inner then 1 else 0))) (hst : H2 st = some (.list (scs.map fun q => .ref q.1))) (hst2 : st ≠ c.rw) (hln : scs.length ≤ 10)
    (hsc : ∀ q ∈ scs,∃ m,H2 q.1 = some (.inst .c_Scope m) ∧ lk m .n_names = some (.ref q.2.1) ∧ H2 q.2.1 = some (.sd q.2.2)) (D : DictsOk H2 scs (UX x y inner)) (hA : look scs [65] = some (.ref home)) (hh : H2 home = some (insO [65] [109,111,100,117,108,101] (.ref x.tN) 0 ol (.ref y.i) sl)) : Env c (mkT H x y inner) H2 := by
  have ty := mk_ty (inner := inner) w k
  refine ⟨⟨st,scs,_,hss,rfl,rfl,hst2,hst,hln,hsc,fun n hn => ?_⟩,⟨c2.symm,c2 ▸ ty _ (by simp)⟩,c3.symm,⟨_,hss,rfl⟩⟩
  obtain ⟨f1,f2⟩ := look_spec (n := n) D
  have un : lookU (UX x y inner) n = none → (mkT H x y inner).U n = .bad [117,110,100,101,102,105,110,101,100] → Den c (mkT H x y inner) H2 (look scs n) ((mkT H x y inner).U n) := fun a b => by rw [f1 a,b]; exact .un
  have na : ∀ kd t,lookU (UX x y inner) n = some (kd,t) → kd ≠ [116,121,112,101] → kd ≠ [109,111,100,117,108,101] → (mkT H x y inner).U n = .bad [110,111,116,95,97,95,116,121,112,101] → Den c (mkT H x y inner) H2 (look scs n) ((mkT H x y inner).U n) := fun kd t a b d e => by
    obtain ⟨o,mm,g1,g2,g3,g4⟩ := f2 _ a
    rw [g1,e]; exact .nat o mm kd g2 g3 b d
  have tt : ∀ a,lookU (UX x y inner) n = some ([116,121,112,101],.ref a) → (mkT H x y inner).U n = .ty a → a ∈ [x.tI,x.tC,x.tY,x.tM,x.tB,y.sS,y.sV,y.sP,y.sT,y.sA] → Den c (mkT H x y inner) H2 (look scs n) ((mkT H x y inner).U n) := fun t a e m => by
    obtain ⟨o,mm,g1,g2,g3,g4⟩ := f2 _ a
    rw [g1,e]; exact .ty o t mm g2 g3 g4 (ty _ m)
  have rc : lookU (UX x y inner) n = some ([116,121,112,101],.ref x.tN) → (mkT H x y inner).U n = .bad [114,101,99,117,114,115,105,118,101,95,116,121,112,101] → Den c (mkT H x y inner) H2 (look scs n) ((mkT H x y inner).U n) := fun a e => by
    obtain ⟨o,mm,g1,g2,g3,g4⟩ := f2 _ a
    obtain ⟨f,p,q,e1⟩ := w.wa.bN
    rw [g1,e]; exact .rc o x.tN mm _ g2 g3 g4 (k _ _ _ e1 (by simp)) rfl
  have mo : n = [65] → Den c (mkT H x y inner) H2 (look scs n) ((mkT H x y inner).U n) := fun e => by
    subst e
    obtain ⟨im,e1⟩ := w.fi
    rw [hA]
    exact .mo home y.i y.oL _ _ _ hh rfl rfl (k _ _ _ e1 (by simp)) rfl rfl (c1 ▸ w.n) (kL.trans w.fL) fun n hn => den2_ok w k hn
  clear f1 f2
  simp only [idV,List.mem_cons,List.not_mem_nil,or_false] at hn
  cases inner <;> rcases hn with rfl | rfl | rfl | rfl | rfl | rfl | rfl | rfl | rfl | rfl | rfl | rfl | rfl | rfl | rfl | rfl | rfl | rfl | rfl | rfl | rfl | rfl | rfl | rfl <;>
    first | exact un rfl rfl | exact mo rfl | exact rc rfl rfl | exact tt _ rfl rfl (by simp) | exact na _ _ rfl (by decide) (by decide) rfl
end
end
section
abbrev Fs := List (Addr × Addr × List (Tx × V) × List (Tx × Tx × V))
def O.cfx : O → Bool
  | .inst .c_Reader _ => true
  | .inst .c_Token _ => true
  | .inst .c_Scanner _ => true
  | .inst .c_Obj _ => true
  | _ => false
structure CF (H0 H : AH) (c : Cx) (tk : Addr) (R : List Row) (fs : Fs) : Prop where
  kb : KpX [] H0 H
  rd : H c.rd = some (rdO c tk)
  tk : H tk = some (tokO (so R) (valOf (so R) (sg R)) (spo R))
  sc : H c.sc = some (scO c.src c.er (spo R + (sg R).length : Nat))
  fs : ∀ f ∈ fs,(∃ mm,H f.1 = some (.inst .c_Scope mm) ∧ lk mm .n_names = some (.ref f.2.1)) ∧ H f.2.1 = some (.sd f.2.2.1) ∧ DictOk H f.2.2.1 f.2.2.2
section
variable {H0 H H' : AH} {c : Cx} {tk : Addr} {R : List Row} {fs : Fs}
theorem CF.kp {xs : List Addr} (F : CF H0 H c tk R fs) (k : KpX xs H H') (h0 : ∀ z ∈ xs,H0 z = none) (h1 : ∀ z ∈ xs,∃ o,H z = some o ∧ o.cfx = false) (h2 : ∀ z ∈ xs,∀ f ∈ fs,z ≠ f.1 ∧ z ≠ f.2.1) : CF H0 H' c tk R fs := by
  have g : ∀ {a o},H a = some o → o.cfx = true → H' a = some o := fun e t => k _ _ e fun hm => by
    obtain ⟨o',e2,t2⟩ := h1 _ hm
    rw [e] at e2; cases e2; rw [t] at t2; cases t2
  refine ⟨F.kb.sub k fun z hz => .inl (h0 z hz),g F.rd rfl,g F.tk rfl,g F.sc rfl,fun f hf => ?_⟩
  obtain ⟨⟨mm,a1,a2⟩,a3,a4⟩ := F.fs f hf
  exact ⟨⟨mm,k _ _ a1 fun hm => (h2 _ hm f hf).1 rfl,a2⟩,k _ _ a3 fun hm => (h2 _ hm f hf).2 rfl,a4.keep fun b mm e => g e rfl⟩
theorem CF.new (F : CF H0 H c tk R fs) {a : Addr} {o : O} (ha : H a = none) : CF H0 (put H a o) c tk R fs := by
  refine ⟨F.kb.putf (F.kb.fr ha (by simp)),pt F.rd (nf F.rd ha),pt F.tk (nf F.tk ha),pt F.sc (nf F.sc ha),fun f hf => ?_⟩
  obtain ⟨⟨mm,a1,a2⟩,a3,a4⟩ := F.fs f hf
  exact ⟨⟨mm,pt a1 (nf a1 ha),a2⟩,pt a3 (nf a3 ha),a4.keep fun b mm e => pt e (nf e ha)⟩
theorem CF.obj (F : CF H0 H c tk R fs) {b : Addr} {mm mm' : List (N × V)} (hb : H b = some (.inst .c_Obj mm)) (h0 : H0 b = none) (h1 : lk mm' .n_kind = lk mm .n_kind) (h2 : lk mm' .n_type = lk mm .n_type) : CF H0 (put H b (.inst .c_Obj mm')) c tk R fs := by
  refine ⟨F.kb.putf h0,pt F.rd (nn F.rd hb (by intro e; cases e)),pt F.tk (nn F.tk hb (by intro e; cases e)),pt F.sc (nn F.sc hb (by intro e; cases e)),fun f hf => ?_⟩
  obtain ⟨⟨mm,a1,a2⟩,a3,a4⟩ := F.fs f hf
  exact ⟨⟨mm,pt a1 (nn a1 hb (by intro e; cases e)),a2⟩,pt a3 (nn a3 hb nofun),a4.upd hb h1 h2⟩
theorem CF.add (F : CF H0 H c tk R fs) {f : Addr × Addr × List (Tx × V) × List (Tx × Tx × V)} (h : (∃ mm,H f.1 = some (.inst .c_Scope mm) ∧ lk mm .n_names = some (.ref f.2.1)) ∧ H f.2.1 = some (.sd f.2.2.1) ∧ DictOk H f.2.2.1 f.2.2.2) : CF H0 H c tk R (fs ++ [f]) :=
  ⟨F.kb,F.rd,F.tk,F.sc,fun g hg => (List.mem_append.mp hg).elim (F.fs g) fun hg => by rw [List.mem_singleton.mp hg]; exact h⟩
end
def AlD (sp : Sp) (ρ : Rho) (ks : List Tx) (es : List E) (H : AH) (Q : Post) (_ : Bq Q) : Prop := ∀ c,H c = none → wpDs sp ρ c es ks (put H c (.sd [])) fun H1 => Q (.ref c) H1
def DsV (sp : Sp) (ρ : Rho) (c : Addr) (v : V) (es : List E) (ks : List Tx) (H : AH) (Q : AH → Prop) (_ : Bq Q) : Prop := ∃ k ks' m,ks = k :: ks' ∧ H c = some (.sd m) ∧ m.length ≤ 1000000 ∧ wpDs sp ρ c es ks' (put H c (.sd (sset m k v))) Q
section
variable {sp : Sp} {ρ : Rho} {c : Addr} {H : AH} {e : E} {es : List E} {ks : List Tx} {k : Tx} {v : V} {m : List (Tx × V)} {Q : AH → Prop} {bQ : Bq Q}
theorem e_dct {Q : Post} : wpE sp ρ (.dict ks es) H Q = AlD sp ρ ks es H Q ⟨⟩ := by rw [wpE]; rfl
theorem ds_n : wpDs sp ρ c [] ks H Q = Q H := by rw [wpDs]
theorem ds_c : wpDs sp ρ c (e :: es) ks H Q = wpE sp ρ e H fun v H1 => DsV sp ρ c v es ks H1 Q ⟨⟩ := by rw [wpDs]; rfl
theorem ds_v (h : Yes (decide (m.length ≤ 1000000) = true)) : DsV sp ρ c v es (k :: ks) (put H c (.sd m)) Q bQ = wpDs sp ρ c es ks (put H c (.sd (sset m k v))) Q :=
  propext ⟨fun ⟨k',ks',m',e1,e2,e3,e4⟩ => by
    cases e1; rw [put_same] at e2; cases e2; rw [put_put] at e4; exact e4,fun h' => ⟨k,ks,m,rfl,put_same,of_decide_eq_true h.h,by rw [put_put]; exact h'⟩⟩
end
section
variable {sp : Sp} (hC : Calls sp)
include hC
theorem law_ins {H0 : AH} {c : Cx} {tk : Addr} {R : List Row} {fs : Fs} {st sc d o l : Addr} {pr : List V} {lv slv : Int} {lb : Tx} {all : List V} {K : SPost} (hf0 : H0 sc = none ∧ H0 d = none ∧ H0 o = none) (hfs : ∀ f ∈ fs,sc ≠ f.1 ∧ d ≠ f.2.1) (hlo : l ≠ o) :
    ∀ (es us : List (Tx × Tx × V)) (m : List (Tx × V)) (ol : List V) (k : Int) (H : AH) (ρ : Rho) (bq : Bq K),CF H0 H c tk R fs → ScF H c.ss st sc d o c.ty pr lv slv lb m ol k → DictOk H m us → ol.length = us.length → es.length + us.length ≤ 100 → (∀ e ∈ es,lk us e.1 = none) → (es.map Prod.fst).Nodup → H l = some (.list all) →
      ρ .n_rd = some (.ref c.rd) → (∀ ρ' H' m' ol' k',(∀ n ∉ [N.n_name,.n_sort,.n_t],ρ' n = ρ n) → CF H0 H' c tk R fs → ScF H' c.ss st sc d o c.ty pr lv slv lb m' ol' k' → DictOk H' m' (us ++ es) → ol'.length = us.length + es.length → K .next ρ' H') →
      FL (srcL l all) (setT [.n_name,.n_sort,.n_t]) (bodyB sp [.expr (E.meth .c_Scopes (E.attr (E.loc .n_rd) .n_scopes) .n_insert [(E.loc .n_name),(E.loc .n_sort),(E.loc .n_t),(E.int 0)])]) (es.map fun e => .tup [.str e.1,.str e.2.1,e.2.2]) ρ H K bq := by
  intro es
  induction es with
  | nil =>
    intro us m ol k H ρ bq C F D hol _ _ _ hl r1 kk
    exact fl_nil hl (kk ρ H m ol k (fun _ _ => rfl) C F (by simpa using D) hol)
  | cons e es ih =>
    intro us m ol k H ρ bq C F D hol hb hn hd hl r1 kk
    refine fl_cons hl rfl ?_
    have hrd := C.rd
    have hss := F.h1
    simp only [List.length_cons] at hb
    walk_at "X"
    refine c_ins hC F D (hn e List.mem_cons_self) (by omega) hol fun b sl m' l' k' H' g0 g1 g2 g3 g4 g5 => ?_
    have C' : CF H0 H' c tk R fs := C.kp g5 (fun z hz => by
        simp only [List.mem_cons,List.not_mem_nil,or_false] at hz
        rcases hz with rfl | rfl | rfl
        · exact hf0.1
        · exact hf0.2.1
        · exact hf0.2.2) (fun z hz => by
        simp only [List.mem_cons,List.not_mem_nil,or_false] at hz
        rcases hz with rfl | rfl | rfl
        · exact ⟨_,F.h3,rfl⟩
        · exact ⟨_,F.h4,rfl⟩
        · exact ⟨_,F.h5,rfl⟩) (fun z hz f hf => by
        obtain ⟨⟨mm,a1,-⟩,a3,-⟩ := C.fs f hf
        simp only [List.mem_cons,List.not_mem_nil,or_false] at hz
        rcases hz with rfl | rfl | rfl
        · exact ⟨(hfs f hf).1,nn F.h3 a3 nofun⟩
        · exact ⟨nn F.h4 a1 nofun,(hfs f hf).2⟩
        · exact ⟨nn F.h5 a1 nofun,nn F.h5 a3 nofun⟩)
    walk_at "X"
    refine ih (us ++ [e]) m' l' k' H' _ ⟨⟩ C' g2 g3 (by simp [g4]) (by simp; omega) (fun x hx => ?_) (List.nodup_cons.mp hd).2 (g5 _ _ hl (by
      simp only [List.mem_cons,List.not_mem_nil,or_false,not_or]
      exact ⟨nn hl F.h3 nofun,nn hl F.h4 nofun,hlo⟩)) r1 fun ρ' H'' m'' ol' k'' a1 a2 a3 a4 a5 => ?_
    · rw [lk_app (hn x (List.mem_cons_of_mem _ hx))]
      simp only [lk]
      rw [if_neg (fun (z : e.1 = x.1) => (List.nodup_cons.mp hd).1 (z ▸ List.mem_map_of_mem hx))]
    · refine kk ρ' H'' m'' ol' k'' (fun n hn => ?_) a2 a3 (by simpa using a4) (by simp at a5 ⊢; omega)
      rw [a1 n hn]
      simp only [List.mem_cons,List.not_mem_nil,or_false,not_or] at hn
      simp only [putAll]
      rw [put_ne hn.2.2,put_ne hn.2.1,put_ne hn.1]
end
end
section
def CxOk (c : Cx) (x : Ab) : Prop := c.er = x.er ∧ c.rw = x.rw ∧ c.pl = x.pl ∧ c.ty = x.ty ∧ c.kn = x.kn ∧ c.tB = x.tB ∧ c.tC = x.tC ∧ c.tY = x.tY ∧ c.tI = x.tI ∧ c.tM = x.tM ∧ c.tL = x.tL ∧ c.tN = x.tN
theorem CxOk.ty {c : Cx} {x : Ab} (h : CxOk c x) (k : Int) : tyX x k = tyO c k := by
  obtain ⟨h1,h2,h3,h4,h5,h6,h7,h8,h9,h10,h11,h12⟩ := h
  simp only [tyX,tyO,h5,h6,h7,h8,h9,h10,h11,h12]
theorem ScF.frs {H : AH} {ss st sc d o ty : Addr} {pre : List V} {lv slv : Int} {lb : Tx} {m : List (Tx × V)} {l : List V} {k : Int} (F : ScF H ss st sc d o ty pre lv slv lb m l k) : ∀ z ∈ [sc,d,o],∃ x,H z = some x ∧ x.cfx = false := fun z hz => by
  simp only [List.mem_cons,List.not_mem_nil,or_false] at hz
  rcases hz with rfl | rfl | rfl
  · exact ⟨_,F.h3,rfl⟩
  · exact ⟨_,F.h4,rfl⟩
  · exact ⟨_,F.h5,rfl⟩
theorem CF.ins {H0 H H' : AH} {c : Cx} {tk : Addr} {R : List Row} {fs : Fs} {ss st sc d o ty : Addr} {pre : List V} {lv slv : Int} {lb : Tx} {m : List (Tx × V)} {l : List V} {k : Int} (C : CF H0 H c tk R fs) (F : ScF H ss st sc d o ty pre lv slv lb m l k) (kk : KpX [sc,d,o] H H')
    (hf0 : H0 sc = none ∧ H0 d = none ∧ H0 o = none) (hfs : ∀ f ∈ fs,sc ≠ f.1 ∧ d ≠ f.2.1) : CF H0 H' c tk R fs :=
  C.kp kk (fun z hz => by
        simp only [List.mem_cons,List.not_mem_nil,or_false] at hz
        rcases hz with rfl | rfl | rfl
        · exact hf0.1
        · exact hf0.2.1
        · exact hf0.2.2) F.frs (fun z hz f hf => by
        obtain ⟨⟨mm,a1,-⟩,a3,-⟩ := C.fs f hf
        simp only [List.mem_cons,List.not_mem_nil,or_false] at hz
        rcases hz with rfl | rfl | rfl
        · exact ⟨(hfs f hf).1,nn F.h3 a3 nofun⟩
        · exact ⟨nn F.h4 a1 nofun,(hfs f hf).2⟩
        · exact ⟨nn F.h5 a1 nofun,nn F.h5 a3 nofun⟩)
theorem CF.opn {H0 H H' : AH} {c : Cx} {tk : Addr} {R : List Row} {fs : Fs} {ss st sc d o ty : Addr} {pre : List V} {lv slv : Int} {lb : Tx} {m : List (Tx × V)} {l : List V} {k : Int} (C : CF H0 H c tk R fs) (F : ScF H ss st sc d o ty pre lv slv lb m l k) (kk : KpX [ss,st] H H')
    (hf0 : H0 ss = none ∧ H0 st = none) : CF H0 H' c tk R fs :=
  C.kp kk (fun z hz => by
        simp only [List.mem_cons,List.not_mem_nil,or_false] at hz
        rcases hz with rfl | rfl
        · exact hf0.1
        · exact hf0.2) (fun z hz => by
        simp only [List.mem_cons,List.not_mem_nil,or_false] at hz
        rcases hz with rfl | rfl
        · exact ⟨_,F.h1,rfl⟩
        · exact ⟨_,F.h2,rfl⟩) (fun z hz f hf => by
        obtain ⟨⟨mm,a1,-⟩,a3,-⟩ := C.fs f hf
        simp only [List.mem_cons,List.not_mem_nil,or_false] at hz
        rcases hz with rfl | rfl
        · exact ⟨nn F.h1 a1 (by intro e; cases e),nn F.h1 a3 nofun⟩
        · exact ⟨nn F.h2 a1 nofun,nn F.h2 a3 nofun⟩)
section
variable {sp : Sp} (hC : Calls sp)
include hC
theorem law_C3 {H0 H : AH} {c : Cx} {x : Ab} {y : Ac} {pa ca tk rr mn home st sc d o : Addr} {inner : Bool} {many : Nat} {R : List Row} {label : Tx} {pr : List V} {lv slv kk : Int} {lb : Tx} {mm : List (Tx × V)} {ol : List V} {sl hl : Int} {ρ : Rho} {fs : Fs} {scs : Scp}
    (w : W0 H0 x y pa ca) (hc : CxOk c x) (hrr : H0 rr = some (.list (R.map rowV))) (hL : Lex c.src 0 R) (hne : R ≠ []) (hRl : R.length ≤ 100) (hs : c.src.length ≤ 10000) (hlab : label = [76] ∨ label = [80,47,81]) (hmy : many ≤ 31)
    (C : CF H0 H c tk R fs) (F : ScF H c.ss st sc d o c.ty pr lv slv lb mm ol kk) (hlv : lv = if inner then 1 else 0) (hfr : H0 st = none ∧ H0 o = none) (hscs : scs.length ≤ 10) (hst : pr ++ [.ref sc] = scs.map fun q => .ref q.1) (hsc : ∀ q ∈ scs,∃ m,H q.1 = some (.inst .c_Scope m) ∧ lk m .n_names = some (.ref q.2.1) ∧ H q.2.1 = some (.sd q.2.2))
    (D : DictsOk H scs (UX x y inner)) (hA : look scs [65] = some (.ref home)) (hh : H home = some (insO [65] [109,111,100,117,108,101] (.ref x.tN) 0 hl (.ref y.i) sl)) (hmn : H mn = some (.sd (mList x y (if inner then badV [110,111,116,95,97,95,116,121,112,101] else tyV y.sP)))) (hol : ol.length ≤ 1000) (nrr : rr ≠ x.rw)
    (r1 : ρ .n_types = some (.ref c.ty)) (r2 : ρ .n_errors = some (.ref c.er)) (r3 : ρ .n_structure = some (.ref y.sS)) (r4 : ρ .n_rd = some (.ref c.rd)) (r5 : ρ .n_rows = some (.ref rr)) (r6 : ρ .n_meanings = some (.ref mn)) (r7 : ρ .n_label = some (.str label)) (r8 : ρ .n_inner = some (.bool inner)) (r9 : ρ .n_many = some (.int many)) :
    wpSs sp (b_law.drop 26) ρ H (fun fl _ _ => retOf fl = .bool true) := by
  have kb : ∀ a o,H0 a = some o → H a = some o := fun a o e => C.kb a o e (by simp)
  obtain ⟨e1,e2,e3,e4,e5,e6,e7,e8,e9,e10,e11,e12⟩ := id hc
  have k0 : ∀ a k m,H0 a = some (.inst k m) → (k = .c_Obj ∨ k = .c_Type ∨ k = .c_Interface) → H a = some (.inst k m) := fun a k m e _ => kb _ _ e
  have ty := mk_ty (inner := inner) w k0
  have nst : st ≠ c.rw := fun e => by have := hfr.1; rw [e,e2,w.wa.rw] at this; cases this
  have no : o ≠ c.rw := fun e => by have := hfr.2; rw [e,e2,w.wa.rw] at this; cases this
  have hE : Env c (mkT H0 x y inner) H := env_ok w k0 ((kb _ _ w.fL).trans w.fL.symm) e2 e9 e12 (hlv ▸ F.h1) (hst ▸ F.h2) nst hscs hsc D hA hh
  obtain ⟨fS,pS,qS,hS⟩ := w.fS
  obtain ⟨fN,pN,qN,hN⟩ := w.wa.bN
  have hN' : H c.tN = some (typeO 7 [110,111,110,101] 0 .none 0 fN pN qN [] []) := by rw [e12]; exact kb _ _ hN
  refine law_D hC (T := mkT H0 x y inner) (m := mList x y (if inner then badV [110,111,116,95,97,95,116,121,112,101] else tyV y.sP)) (sS := y.sS) (inner := inner) (nN := 7) C.rd C.tk C.sc ?_ ?_ ?_ ?_ ?_ hL hne hs hRl hE mean_ok (kb _ _ hrr) hmn (fun n _ a e => ty a (mk_u n a e)) (fun n _ a e => ty a (mk_u2 n a e)) F hol no nst hlab ?_ hmy (kb _ _ hS) hN' rfl (e2 ▸ nrr) r1 r2 r3 r4 r5 r6 r7 r8 r9
  · rw [e1]; have := kb _ _ w.wa.er; rw [this,← e2,← e3]
  · rw [e2]; exact kb _ _ w.wa.rw
  · rw [e3]; exact kb _ _ w.wa.pl
  · rw [e4,← hc.ty]; exact kb _ _ w.wa.ty
  · rw [e5]; exact kb _ _ w.wa.kn
  · cases inner <;> rfl
end
end
section
def Evs (sp : Sp) (ρ : Rho) (c : Addr) (H : AH) : List E → List V → Prop
  | [],[] => True
  | e :: es,v :: vs => (∀ m (Q : Post),Q v (put H c (.sd m)) → wpE sp ρ e (put H c (.sd m)) Q) ∧ Evs sp ρ c H es vs
  | _,_ => False
theorem ds_all {sp : Sp} {ρ : Rho} {c : Addr} {H : AH} {Q : AH → Prop} : ∀ (es : List E) (ks : List Tx) (vs : List V) (m : List (Tx × V)),es.length = ks.length → Evs sp ρ c H es vs → ks.Nodup → (∀ k ∈ ks,lk m k = none) → m.length + es.length ≤ 1000 → Q (put H c (.sd (m ++ ks.zip vs))) → wpDs sp ρ c es ks (put H c (.sd m)) Q
  | [],ks,vs,m,hl,hv,_,_,_,h => by
    have : ks = [] := List.length_eq_zero_iff.mp hl.symm
    subst this
    rw [ds_n]; simpa using h
  | e :: es,[],_,_,hl,_,_,_,_,_ => by cases hl
  | e :: es,k :: ks,[],_,_,hv,_,_,_,_ => hv.elim
  | e :: es,k :: ks,v :: vs,m,hl,hv,hd,hn,hb,h => by
    simp only [List.length_cons] at hb
    rw [ds_c]
    refine hv.1 m _ ?_
    rw [ds_v ⟨by simp; omega⟩,sset_new (hn k List.mem_cons_self)]
    refine ds_all es ks vs _ (by simpa using hl) hv.2 (List.nodup_cons.mp hd).2 (fun x hx => ?_) (by simp; omega) (by simpa using h)
    rw [lk_app (hn x (List.mem_cons_of_mem _ hx))]
    simp only [lk]
    rw [if_neg (fun (z : k = x) => (List.nodup_cons.mp hd).1 (z ▸ hx))]
section
variable {sp : Sp} (hC : Calls sp)
include hC
theorem law_C2 {H0 H : AH} {c : Cx} {x : Ab} {y : Ac} {pa ca tk rr st s0 d0 o0 : Addr} {inner : Bool} {many : Nat} {R : List Row} {label : Tx} {m0 : List (Tx × V)} {l0 : List V} {k0 : Int} {ρ : Rho}
    (w : W0 H0 x y pa ca) (hc : CxOk c x) (hrr : H0 rr = some (.list (R.map rowV))) (hL : Lex c.src 0 R) (hne : R ≠ []) (hRl : R.length ≤ 100) (hs : c.src.length ≤ 10000) (hlab : label = [76] ∨ label = [80,47,81]) (hmy : many ≤ 31)
    (C : CF H0 H c tk R [(s0,d0,m0,UE x.tB x.tC x.tY x.tI x.tM x.tN)]) (F : ScF H c.ss st s0 d0 o0 c.ty [] (-1) (-1) [] m0 l0 k0) (hfr : H0 c.ss = none ∧ H0 st = none) (nrr : rr ≠ x.rw)
    (r1 : ρ .n_types = some (.ref c.ty)) (r2 : ρ .n_errors = some (.ref c.er)) (r3 : ρ .n_structure = some (.ref y.sS)) (r4 : ρ .n_rd = some (.ref c.rd)) (r5 : ρ .n_rows = some (.ref rr)) (r7 : ρ .n_label = some (.str label)) (r8 : ρ .n_inner = some (.bool inner)) (r9 : ρ .n_many = some (.int many))
    (r10 : ρ .n_fixed = some (.ref y.sV)) (r11 : ρ .n_arrow = some (.ref y.sP)) (r12 : ρ .n_strange = some (.ref y.sT)) (r13 : ρ .n_away = some (.ref y.sA)) (r14 : ρ .n_shown = some (.ref y.i)) :
    wpSs sp (b_law.drop 20) ρ H (fun fl _ _ => retOf fl = .bool true) := by
  have q1 := C.rd
  have q2 := F.h1
  have hty0 : H0 c.ty = some (tyO c 12) := by rw [hc.2.2.2.1,← hc.ty]; exact w.wa.ty
  have fin := @law_C3 sp hC
  unfold b_law at fin ⊢
  simp only [List.drop] at fin ⊢
  walk_at "X"
  refine c_open hC F (by simp) (lv2 := 0) rfl fun s1 d1 o1 H1 f1 f2 f3 F1 k1 => ?_
  have C1 := C.opn F k1 hfr
  have g1 := C.kb.fr f1 (by simp)
  have g2 := C.kb.fr f2 (by simp)
  have g3 := C.kb.fr f3 (by simp)
  have n01 : s1 ≠ s0 := Ne.symm (nf F.h3 f1)
  have n02 : d1 ≠ d0 := Ne.symm (nf F.h4 f2)
  have q3 := C1.rd
  have hty1 := C1.kb _ _ hty0 (by simp)
  clear C F k1 f1 f2 f3 q1 q2
  walk_at "X"
  intro l hl
  have C2 := C1.new (o := .list [.tup [.str [84],.str [116,121,112,101],.ref y.sS],.tup [.str [86],.str [116,121,112,101],.ref y.sV],.tup [.str [80],.str [116,121,112,101],.ref y.sP],.tup [.str [87],.str [116,121,112,101],.ref c.tN],.tup [.str [120],.str [118,97,114],.ref c.tC],.tup [.str [70],.str [112,114,111,99],.ref c.tN]]) hl
  have F2 := F1.new (x := .list [.tup [.str [84],.str [116,121,112,101],.ref y.sS],.tup [.str [86],.str [116,121,112,101],.ref y.sV],.tup [.str [80],.str [116,121,112,101],.ref y.sP],.tup [.str [87],.str [116,121,112,101],.ref c.tN],.tup [.str [120],.str [118,97,114],.ref c.tC],.tup [.str [70],.str [112,114,111,99],.ref c.tN]]) hl
  have hl2 : put H1 l (.list [.tup [.str [84],.str [116,121,112,101],.ref y.sS],.tup [.str [86],.str [116,121,112,101],.ref y.sV],.tup [.str [80],.str [116,121,112,101],.ref y.sP],.tup [.str [87],.str [116,121,112,101],.ref c.tN],.tup [.str [120],.str [118,97,114],.ref c.tC],.tup [.str [70],.str [112,114,111,99],.ref c.tN]]) l = some _ := put_same
  have nlo : l ≠ o1 := Ne.symm (nf F1.h5 hl)
  generalize put H1 l (.list [.tup [.str [84],.str [116,121,112,101],.ref y.sS],.tup [.str [86],.str [116,121,112,101],.ref y.sV],.tup [.str [80],.str [116,121,112,101],.ref y.sP],.tup [.str [87],.str [116,121,112,101],.ref c.tN],.tup [.str [120],.str [118,97,114],.ref c.tC],.tup [.str [70],.str [112,114,111,99],.ref c.tN]]) = H2 at *
  clear C1 F1 q3 hty1
  walk_at "X"
  refine law_ins hC (H0 := H0) (c := c) (tk := tk) (R := R) (fs := [(s0,d0,m0,UE x.tB x.tC x.tY x.tI x.tM x.tN)]) (st := st) (sc := s1) (d := d1) (o := o1) (l := l) (pr := [] ++ [.ref s0]) (lv := 0) (slv := 0) (lb := [])
    ⟨g1,g2,g3⟩ (fun f hf => by rw [List.mem_singleton.mp hf]; exact ⟨n01,n02⟩) nlo [([84],[116,121,112,101],.ref y.sS),([86],[116,121,112,101],.ref y.sV),([80],[116,121,112,101],.ref y.sP),([87],[116,121,112,101],.ref c.tN),([120],[118,97,114],.ref c.tC),([70],[112,114,111,99],.ref c.tN)] [] [] [] 0 H2 ρ ⟨⟩ C2 F2 trivial rfl (by simp) (fun _ _ => rfl) (show ([[84],[86],[80],[87],[120],[70]] : List Tx).Nodup by decide +kernel) hl2 r4 fun ρ' H3 m3 l3 k3 hρ C3 F3 D3 el3 => ?_
  clear hl2 C2 F2
  have a1 := (hρ .n_types (by decide)).trans r1
  have a2 := (hρ .n_errors (by decide)).trans r2
  have a3 := (hρ .n_structure (by decide)).trans r3
  have a4 := (hρ .n_rd (by decide)).trans r4
  have a5 := (hρ .n_rows (by decide)).trans r5
  have a7 := (hρ .n_label (by decide)).trans r7
  have a8 := (hρ .n_inner (by decide)).trans r8
  have a9 := (hρ .n_many (by decide)).trans r9
  have a10 := (hρ .n_fixed (by decide)).trans r10
  have a11 := (hρ .n_arrow (by decide)).trans r11
  have a12 := (hρ .n_strange (by decide)).trans r12
  have a13 := (hρ .n_away (by decide)).trans r13
  have a14 := (hρ .n_shown (by decide)).trans r14
  have q3 := C3.rd
  have p3 := F3.h1
  have hty3 := C3.kb _ _ hty0 (by simp)
  clear r1 r2 r3 r4 r5 r7 r8 r9 r10 r11 r12 r13 r14 hρ
  walk_at "X"
  refine c_insert hC F3 (D3.lkn (by rfl)) (by rw [D3.len]; simp) (by rw [el3]; simp) fun home sl k4 H4 h0 h1 F4 k5 => ?_
  have hm3 : lk m3 [65] = none := D3.lkn (by rfl)
  have D4 := (D3.ins F3 k5).snoc (n := [65]) h1 rfl rfl
  have C4 := C3.ins F3 k5 ⟨g1,g2,g3⟩ (fun f hf => by rw [List.mem_singleton.mp hf]; exact ⟨n01,n02⟩)
  have hh0 := C3.kb.fr h0 (by simp)
  have C5 := C4.obj (mm' := [(.n_name,.str [65]),(.n_kind,.str [109,111,100,117,108,101]),(.n_type,.ref c.tN),(.n_place,.int 0),(.n_exported,.bool false),(.n_readonly,.bool false),(.n_level,.int (if 0 > (0 : Int) then 0 else 0)),(.n_module,.str []),(.n_value,.ref y.i),(.n_slot,.int sl),(.n_offset,.int 0),(.n_number,.int 0),(.n_isparam,.bool false),(.n_narrowed,.none)]) h1 hh0 rfl rfl
  have D5 := D4.upd (mm' := [(.n_name,.str [65]),(.n_kind,.str [109,111,100,117,108,101]),(.n_type,.ref c.tN),(.n_place,.int 0),(.n_exported,.bool false),(.n_readonly,.bool false),(.n_level,.int (if 0 > (0 : Int) then 0 else 0)),(.n_module,.str []),(.n_value,.ref y.i),(.n_slot,.int sl),(.n_offset,.int 0),(.n_number,.int 0),(.n_isparam,.bool false),(.n_narrowed,.none)]) h1 rfl rfl
  have F5 := F4.obj (x := .inst .c_Obj [(.n_name,.str [65]),(.n_kind,.str [109,111,100,117,108,101]),(.n_type,.ref c.tN),(.n_place,.int 0),(.n_exported,.bool false),(.n_readonly,.bool false),(.n_level,.int (if 0 > (0 : Int) then 0 else 0)),(.n_module,.str []),(.n_value,.ref y.i),(.n_slot,.int sl),(.n_offset,.int 0),(.n_number,.int 0),(.n_isparam,.bool false),(.n_narrowed,.none)]) h1
  have h5 : put H4 home (.inst .c_Obj [(.n_name,.str [65]),(.n_kind,.str [109,111,100,117,108,101]),(.n_type,.ref c.tN),(.n_place,.int 0),(.n_exported,.bool false),(.n_readonly,.bool false),(.n_level,.int (if 0 > (0 : Int) then 0 else 0)),(.n_module,.str []),(.n_value,.ref y.i),(.n_slot,.int sl),(.n_offset,.int 0),(.n_number,.int 0),(.n_isparam,.bool false),(.n_narrowed,.none)]) home = some (insO [65] [109,111,100,117,108,101] (.ref c.tN) 0 (if 0 > (0 : Int) then 0 else 0) (.ref y.i) sl) := put_same
  clear D3 F3 C3 C4 D4 F4 k5 q3 p3 hty3
  simp (disch := walk_at "Y") only [↓wpSs_nil,↓wpSs_cons,↓sk_next,↓sk_ret,↓sk_cont,↓br_t,↓br_f,↓br_T,↓br_F,↓br_n,↓cn_t,↓e_loc,↓e_gint,↓e_int,↓e_str,↓e_bool,↓e_none,↓e_pow,↓e_neg,↓e_attr,↓e_bin,↓e_not,↓e_and,↓e_or,↓e_cmp,↓e_ite,↓e_list,↓e_tup,↓e_d0td,↓e_d0sd,↓e_d0id,↓e_idx,↓e_slice,↓e_call,↓e_met,↓e_new,↓e_bi,↓e_app,↓e_pop,↓e_pop0,↓e_dgt,↓e_sfind,↓e_compA,↓e_compI,↓es_n,↓es_c,↓o_n,↓o_s,↓io_i,↓nv_b,↓an_c,↓or_c,↓av_1,↓av_2,↓ov_1,↓ov_2,↓mt_r,↓tv_b,↓lv_r,↓dv_r,↓sv_r,↓sv_t,↓t_not,↓t_and,↓t_or,↓t_cmp,↓t_loc,↓t_bool,↓t_call,↓t_met,↓al_n,↓al_c,↓ay_n,↓ay_c,↓all_T,↓all_F,↓all_P,↓p_asg,↓p_unpk,↓p_sattr,↓p_sidx,↓p_aug,↓p_augattr,↓p_ifs,↓p_whl,↓p_forS,↓p_forT,↓p_forR,↓p_forV,↓p_ret,↓p_retn,↓p_cont,↓p_expr,↓rd_r,↓sa_r,↓bi_ii,↓xi_ss,↓xi_tt,↓xi_rr,↓bi_sub,↓xi_mul,↓xi_mulr,↓xi_div,↓xi_mod,↓ag_ii,↓xg_ss,↓xg_rr,↓xx_t,↓xx_l,↓xx_d,↓xl_s,↓xl_l,↓xl_x,↓bf_abs,↓bf_int,↓xf_chr,↓xf_str,↓xf_lens,↓xf_lenl,↓bf_ord,↓bf_max,↓xf_list,↓xa_l,↓xp_l,↓xp0_l,↓xd_l,↓xs_l,↓xs_i,↓xs_s,↓xs_t,↓cm_eq,↓cm_ne,↓cm_lt,↓cm_le,↓cm_les,↓cm_gt,↓cm_ge,↓cm_in,↓cm_notin,↓xc_nn,↓xc_nr,↓eq_i,↓eq_s,↓eq_b,↓xe_t,↓xe_l,↓xm_ls,↓xm_li,↓xm_sd,↓xm_id,↓xm_t,↓me_s,↓xcp_l,↓fi_l,↓fi_t,↓ft_l,↓fv_l,↓fr_i,↓fk_n,↓fk_c,↓fk_r,↓wk_n,↓wk_c,↓wk_r,↓body_eq,↓ret_r,↓ret_n,sset,reduceCtorEq,if_true,if_false,↓e_dct]
  generalize put H4 home (.inst .c_Obj [(.n_name,.str [65]),(.n_kind,.str [109,111,100,117,108,101]),(.n_type,.ref c.tN),(.n_place,.int 0),(.n_exported,.bool false),(.n_readonly,.bool false),(.n_level,.int (if 0 > (0 : Int) then 0 else 0)),(.n_module,.str []),(.n_value,.ref y.i),(.n_slot,.int sl),(.n_offset,.int 0),(.n_number,.int 0),(.n_isparam,.bool false),(.n_narrowed,.none)]) = H5 at *
  obtain ⟨e1,e2,e3,e4,e5,e6,e7,e8,e9,e10,e11,e12⟩ := id hc
  have hUM : DictOk H5 (m3 ++ [([65],.ref home)]) (UM x y) := by have := D5; rw [e7,e12] at this; exact this
  rw [e12] at h5
  have hty5 := C5.kb _ _ hty0 (by simp)
  clear D5 h1 h0
  intro mn hmn
  have nty := nf hty5 hmn
  have C6 := C5.new (o := .sd (mList x y (tyV y.sP))) hmn
  have F6 := F5.new (x := .sd (mList x y (tyV y.sP))) hmn
  have h6 := pt (x := .sd (mList x y (tyV y.sP))) h5 (nf h5 hmn)
  have D6 : DictOk (put H5 mn (.sd (mList x y (tyV y.sP)))) (m3 ++ [([65],.ref home)]) (UM x y) := hUM.keep fun b mm e => pt e (nf e hmn)
  have hA3 : lk (m3 ++ [([65],V.ref home)]) [65] = some (.ref home) := by rw [lk_app hm3]; rfl
  have tt : ∀ (a : Addr) (n : N),n ∈ Cls.attrs .c_Types → (∀ k,lk [(.n_counter,.int k),(.n_known,.ref c.kn),(.n_boolean,.ref c.tB),(.n_char,.ref c.tC),(.n_byte,.ref c.tY),(.n_integer,.ref c.tI),(.n_mask,.ref c.tM),(.n_nil,.ref c.tL),(.n_none,.ref c.tN)] n = some (V.ref a)) →
      ∀ (m : List (Tx × V)) (Q : Post),Q (tyV a) (put H5 mn (.sd m)) → wpE sp (put ρ' .n_home (.ref home)) (.tup [.str [116,121,112,101],.attr (.loc .n_types) n]) (put H5 mn (.sd m)) Q := fun a n h1 h2 m Q q => by
    have e := h2 12
    have e1 : (decide (n ∈ Cls.attrs .c_Types)) = true := decide_eq_true h1
    walk_at "X"
    exact q
  have tl : ∀ (a : Addr) (n : N),put ρ' .n_home (.ref home) n = some (.ref a) → ∀ (m : List (Tx × V)) (Q : Post),Q (tyV a) (put H5 mn (.sd m)) → wpE sp (put ρ' .n_home (.ref home)) (.tup [.str [116,121,112,101],.loc n]) (put H5 mn (.sd m)) Q := fun a n h1 m Q q => by
    walk_at "X"
    exact q
  have tb : ∀ (k : Tx) (m : List (Tx × V)) (Q : Post),Q (badV k) (put H5 mn (.sd m)) → wpE sp (put ρ' .n_home (.ref home)) (.tup [.str k,.none]) (put H5 mn (.sd m)) Q := fun k m Q q => by
    walk_at "X"
    exact q
  refine ds_all _ _ [tyV c.tI,tyV c.tC,tyV c.tY,tyV c.tM,tyV c.tB,tyV y.sS,tyV y.sV,tyV y.sP,badV [114,101,99,117,114,115,105,118,101,95,116,121,112,101],badV [110,111,116,95,97,95,116,121,112,101],badV [110,111,116,95,97,95,116,121,112,101],badV [110,111,116,95,97,95,116,121,112,101],badV [110,111,116,95,97,95,116,121,112,101],badV [109,111,100,117,108,101],tyV y.sT,tyV y.sA,badV [110,111,116,95,97,95,116,121,112,101]] [] rfl
    ⟨tt _ _ (by decide) fun _ => rfl,tt _ _ (by decide) fun _ => rfl,tt _ _ (by decide) fun _ => rfl,tt _ _ (by decide) fun _ => rfl,tt _ _ (by decide) fun _ => rfl,tl _ _ a3,tl _ _ a10,tl _ _ a11,tb _,tb _,tb _,tb _,tb _,tb _,tl _ _ a12,tl _ _ a13,tb _,trivial⟩ (by decide +kernel) (fun _ _ => rfl) (by simp) ?_
  rw [show put H5 mn (.sd _) = put H5 mn (.sd (mList x y (tyV y.sP))) by rw [e9,e7,e8,e10,e6]; rfl]
  have m6 : put H5 mn (.sd (mList x y (tyV y.sP))) mn = some (.sd (mList x y (tyV y.sP))) := put_same
  have hmn0 := C5.kb.fr hmn (by simp)
  have nmd1 : mn ≠ d1 := Ne.symm (nf F5.h4 hmn)
  have nmd0 : mn ≠ d0 := Ne.symm (nf (C5.fs _ List.mem_cons_self).2.1 hmn)
  generalize put H5 mn (.sd (mList x y (tyV y.sP))) = H6 at *
  clear C5 F5 h5 hUM hty5 nty hmn
  have c0 := C6.fs _ List.mem_cons_self
  have lol : (l3 ++ [V.ref home]).length ≤ 1000 := by have := el3; simp at this ⊢; omega
  cases inner with
  | false =>
    have z := fin (H0 := H0) (H := H6) (c := c) (x := x) (y := y) (inner := false) (scs := [(s0,d0,m0),(s1,d1,m3 ++ [([65],.ref home)])]) (ρ := put (put ρ' .n_home (.ref home)) .n_meanings (.ref mn)) w hc hrr hL hne hRl hs hlab hmy C6 F6 rfl ⟨hfr.2,g3⟩ (by simp) rfl (fun q hq => by
        simp only [List.mem_cons,List.not_mem_nil,or_false] at hq
        rcases hq with rfl | rfl
        · exact ⟨c0.1.choose,c0.1.choose_spec.1,c0.1.choose_spec.2,c0.2.1⟩
        · exact ⟨_,F6.h3,rfl,F6.h4⟩) ⟨c0.2.2,D6,trivial⟩ (by simp only [look,hA3]) h6 m6 lol nrr a1 a2 a3 a4 a5 rfl a7 a8 a9
    walk_at "Z"
    exact z
  | true =>
    have C7 := C6.add (f := (s1,d1,m3 ++ [([65],.ref home)],UM x y)) ⟨⟨_,F6.h3,rfl⟩,F6.h4,D6⟩
    have q6 := C6.rd
    have p6 := F6.h1
    walk_at "X"
    refine c_open hC F6 (by simp) (lv2 := 1) rfl fun s2 d2 o2 H7 f1 f2 f3 F7 k7 => ?_
    have C8 := C7.opn F6 k7 hfr
    have b1 := C6.kb.fr f1 (by simp)
    have b2 := C6.kb.fr f2 (by simp)
    have b3 := C6.kb.fr f3 (by simp)
    have n1 : s2 ≠ s0 := by obtain ⟨⟨mm,u1,-⟩,-⟩ := c0; exact Ne.symm (nf u1 f1)
    have n2 : d2 ≠ d0 := Ne.symm (nf c0.2.1 f2)
    have n3 : s2 ≠ s1 := Ne.symm (nf F6.h3 f1)
    have n4 : d2 ≠ d1 := Ne.symm (nf F6.h4 f2)
    have n5 : mn ≠ d2 := nf m6 f2
    have m7 := k7 _ _ m6 (by simp only [List.mem_cons,List.not_mem_nil,or_false,not_or]; exact ⟨nn m6 F6.h1 nofun,nn m6 F6.h2 nofun⟩)
    have h7 := k7 _ _ h6 (by simp only [List.mem_cons,List.not_mem_nil,or_false,not_or]; exact ⟨nn h6 F6.h1 (by intro e; cases e),nn h6 F6.h2 nofun⟩)
    have q7 := C8.rd
    have p7 := F7.h1
    clear C7 C6 F6 k7 f1 f2 f3 q6 p6 h6 m6 D6
    walk_at "X"
    refine c_ins hC F7 (us := []) trivial rfl (by simp) rfl fun b sl2 m8 l8 k8 H8 u1 u2 F8 D8 el k9 => ?_
    have hfs : ∀ f ∈ [(s0,d0,m0,UE x.tB x.tC x.tY x.tI x.tM x.tN)] ++ [(s1,d1,m3 ++ [([65],V.ref home)],UM x y)],s2 ≠ f.1 ∧ d2 ≠ f.2.1 := fun f hf => by
      simp only [List.cons_append,List.nil_append,List.mem_cons,List.not_mem_nil,or_false] at hf
      rcases hf with rfl | rfl
      · exact ⟨n1,n2⟩
      · exact ⟨n3,n4⟩
    have C9 := C8.ins F7 k9 ⟨b1,b2,b3⟩ hfs
    have m9 := k9 _ _ m7 (by simp only [List.mem_cons,List.not_mem_nil,or_false,not_or]; exact ⟨nn m7 F7.h3 nofun,n5,nn m7 F7.h5 nofun⟩)
    have h9 := k9 _ _ h7 (by simp only [List.mem_cons,List.not_mem_nil,or_false,not_or]; exact ⟨nn h7 F7.h3 (by intro e; cases e),nn h7 F7.h4 nofun,nn h7 F7.h5 nofun⟩)
    clear C8 F7 k9 u1 u2 m7 h7 q7 p7
    have cl : (mList x y (tyV y.sP)).length ≤ 1000000 := by simp [mList]
    have es : sset (mList x y (tyV y.sP)) [80] (.tup [.str [110,111,116,95,97,95,116,121,112,101],.none]) = mList x y (badV [110,111,116,95,97,95,116,121,112,101]) := rfl
    walk_at "X"
    rw [es]
    have C10 := C9.kp (xs := [mn]) (KpX.putm (xs := [mn]) (a := mn) (H := H8) KpX.refl (o := .sd (mList x y (badV [110,111,116,95,97,95,116,121,112,101]))) (List.mem_singleton.mpr rfl)) (fun z hz => by rw [List.mem_singleton.mp hz]; exact hmn0) (fun z hz => by rw [List.mem_singleton.mp hz]; exact ⟨_,m9,rfl⟩) (fun z hz f hf => by
      rw [List.mem_singleton.mp hz]
      simp only [List.cons_append,List.nil_append,List.mem_cons,List.not_mem_nil,or_false] at hf
      obtain ⟨⟨mm,v1,-⟩,v3,-⟩ := C9.fs f (by simp only [List.cons_append,List.nil_append,List.mem_cons,List.not_mem_nil,or_false]; exact hf)
      refine ⟨nn m9 v1 nofun,?_⟩
      rcases hf with rfl | rfl
      · exact nmd0
      · exact nmd1)
    have F10 : ScF (put H8 mn (.sd (mList x y (badV [110,111,116,95,97,95,116,121,112,101])))) c.ss st s2 d2 o2 c.ty _ _ _ _ _ _ _ := ⟨pt F8.h1 (nn F8.h1 m9 nofun),pt F8.h2 (nn F8.h2 m9 nofun),pt F8.h3 (nn F8.h3 m9 nofun),pt F8.h4 (Ne.symm n5),pt F8.h5 (nn F8.h5 m9 nofun),F8.n1⟩
    have D10 := D8.keep (H' := put H8 mn (.sd (mList x y (badV [110,111,116,95,97,95,116,121,112,101])))) fun b mm e => pt e (nn e m9 nofun)
    have h10 := pt (x := .sd (mList x y (badV [110,111,116,95,97,95,116,121,112,101]))) h9 (nn h9 m9 nofun)
    have m10 : put H8 mn (.sd (mList x y (badV [110,111,116,95,97,95,116,121,112,101]))) mn = some (.sd (mList x y (badV [110,111,116,95,97,95,116,121,112,101]))) := put_same
    have hput : ∀ D,D = mList x y (badV [110,111,116,95,97,95,116,121,112,101]) → put H8 mn (.sd D) = put H8 mn (.sd (mList x y (badV [110,111,116,95,97,95,116,121,112,101]))) := fun D e => by rw [e]
    have nA : lk m8 [65] = none := D8.lkn (by rfl)
    have v0 := C10.fs _ (List.mem_append_left _ List.mem_cons_self)
    have v1 := C10.fs _ (List.mem_append_right _ List.mem_cons_self)
    have z := fin (H0 := H0) (H := put H8 mn (.sd (mList x y (badV [110,111,116,95,97,95,116,121,112,101])))) (c := c) (x := x) (y := y) (inner := true) (scs := [(s0,d0,m0),(s1,d1,m3 ++ [([65],.ref home)]),(s2,d2,m8)]) (ρ := put (put ρ' .n_home (.ref home)) .n_meanings (.ref mn)) w hc hrr hL hne hRl hs hlab hmy C10 F10 rfl ⟨hfr.2,b3⟩ (by simp) rfl (fun q hq => by
        simp only [List.mem_cons,List.not_mem_nil,or_false] at hq
        rcases hq with rfl | rfl | rfl
        · exact ⟨v0.1.choose,v0.1.choose_spec.1,v0.1.choose_spec.2,v0.2.1⟩
        · exact ⟨v1.1.choose,v1.1.choose_spec.1,v1.1.choose_spec.2,v1.2.1⟩
        · exact ⟨_,F10.h3,rfl,F10.h4⟩) ⟨v0.2.2,v1.2.2,D10,trivial⟩ (by simp only [look,nA,hA3]) h10 m10 (by rw [el]; simp) nrr a1 a2 a3 a4 a5 rfl a7 a8 a9
    generalize put H8 mn (.sd (mList x y (badV [110,111,116,95,97,95,116,121,112,101]))) = H9 at *
    walk_at "Z"
    exact z
end
end
section
theorem W0.new {H : AH} {x : Ab} {y : Ac} {pa ca : Addr} (w : W0 H x y pa ca) {c : Addr} (hc : H c = none) {o : O} : W0 (put H c o) x y pa ca := w.keep (fun a o' e _ => pt e (nf e hc)) (w.wa.P.new hc)
section
variable {sp : Sp} (hC : Calls sp)
include hC
theorem law_C {H : AH} {x : Ab} {y : Ac} {pa ca rr : Addr} {inner : Bool} {many : Nat} {R : List Row} {label said : Tx} {ρ : Rho}
    (w : W0 H x y pa ca) (hrr : H rr = some (.list (R.map rowV))) (hL : Lex said 0 R) (hne : R ≠ []) (hRl : R.length ≤ 100) (hs : said.length ≤ 10000) (hlab : label = [76] ∨ label = [80,47,81]) (hmy : many ≤ 31) (nrr : rr ≠ x.rw)
    (r1 : ρ .n_types = some (.ref x.ty)) (r2 : ρ .n_errors = some (.ref x.er)) (r3 : ρ .n_structure = some (.ref y.sS)) (r5 : ρ .n_rows = some (.ref rr)) (r6 : ρ .n_said = some (.str said)) (r7 : ρ .n_label = some (.str label)) (r8 : ρ .n_inner = some (.bool inner)) (r9 : ρ .n_many = some (.int many))
    (r10 : ρ .n_fixed = some (.ref y.sV)) (r11 : ρ .n_arrow = some (.ref y.sP)) (r12 : ρ .n_strange = some (.ref y.sT)) (r13 : ρ .n_away = some (.ref y.sA)) (r14 : ρ .n_shown = some (.ref y.i)) :
    wpSs sp (b_law.drop 18) ρ H (fun fl _ _ => retOf fl = .bool true) := by
  have fin := @law_C2 sp hC
  cases R with
  | nil => exact absurd rfl hne
  | cons r q =>
  unfold b_law at fin ⊢
  simp only [List.drop] at fin ⊢
  walk_at "X"
  refine c_newReader hC (r := r) (q := q) w.wa.ty rfl rfl rfl rfl rfl rfl hL (by omega) fun rd sc tk ss st s0 d0 o0 p1 p2 p3 m0 l0 k0 H1 f1 f2 f3 f4 f5 f6 f7 g1 g2 g3 F1 D1 k1 => ?_
  have hput : ∀ {a o},H1 a = some o → (∀ m,o ≠ .inst .c_Reader m) → put H1 rd (rdO ⟨rd,sc,x.er,x.rw,x.pl,x.ty,x.kn,ss,x.tB,x.tC,x.tY,x.tI,x.tM,x.tL,x.tN,p1,p2,p3,said⟩ tk) a = some o := fun e n => pt e (nn e g1 (n _))
  have C : CF H (put H1 rd (rdO ⟨rd,sc,x.er,x.rw,x.pl,x.ty,x.kn,ss,x.tB,x.tC,x.tY,x.tI,x.tM,x.tL,x.tN,p1,p2,p3,said⟩ tk)) ⟨rd,sc,x.er,x.rw,x.pl,x.ty,x.kn,ss,x.tB,x.tC,x.tY,x.tI,x.tM,x.tL,x.tN,p1,p2,p3,said⟩ tk (r :: q) [(s0,d0,m0,UE x.tB x.tC x.tY x.tI x.tM x.tN)] :=
    ⟨k1.putf f1,put_same,hput g3 (by intro m e; cases e),hput g2 (by intro m e; cases e),fun f hf => by
      rw [List.mem_singleton.mp hf]
      exact ⟨⟨_,hput F1.h3 (by intro m e; cases e),rfl⟩,hput F1.h4 nofun,D1.keep fun b mm e => hput e (by intro m e; cases e)⟩⟩
  have F : ScF (put H1 rd (rdO ⟨rd,sc,x.er,x.rw,x.pl,x.ty,x.kn,ss,x.tB,x.tC,x.tY,x.tI,x.tM,x.tL,x.tN,p1,p2,p3,said⟩ tk)) ss st s0 d0 o0 x.ty [] (-1) (-1) [] m0 l0 k0 :=
    ⟨hput F1.h1 (by intro m e; cases e),hput F1.h2 nofun,hput F1.h3 (by intro m e; cases e),hput F1.h4 nofun,hput F1.h5 nofun,F1.n1⟩
  walk_at "X"
  have z := fin (H0 := H) (inner := inner) (label := label) (ρ := put ρ .n_rd (.ref rd)) w ⟨rfl,rfl,rfl,rfl,rfl,rfl,rfl,rfl,rfl,rfl,rfl,rfl⟩ hrr hL hne hRl hs hlab hmy C F ⟨f2,f3⟩ nrr r1 r2 r3 rfl r5 r7 r8 r9 r10 r11 r12 r13 r14
  have q1 := C.rd
  have q2 := F.h1
  walk_at "Z"
  exact z
theorem law_B {H : AH} {x : Ab} {y : Ac} {pa ca : Addr} {ρ : Rho} (w : W0 H x y pa ca)
    (r0 : ρ .n_pool = some (.ref pa)) (r1 : ρ .n_types = some (.ref x.ty)) (r2 : ρ .n_errors = some (.ref x.er)) (r3 : ρ .n_structure = some (.ref y.sS))
    (r10 : ρ .n_fixed = some (.ref y.sV)) (r11 : ρ .n_arrow = some (.ref y.sP)) (r12 : ρ .n_strange = some (.ref y.sT)) (r13 : ρ .n_away = some (.ref y.sA)) (r14 : ρ .n_shown = some (.ref y.i)) :
    wpSs sp (b_law.drop 14) ρ H (fun fl _ _ => retOf fl = .bool true) := by
  have kw : ∀ {H H' : AH},W0 H x y pa ca → PL H' pa ca → KpX [pa,ca] H H' → W0 H' x y pa ca := fun {H H'} w p k => w.keep (fun a o e z => k a o e (by
    obtain ⟨_,_,_,p1,p2,_⟩ := w.wa.P
    rcases z with rfl | rfl | z
    · exact w.wa.n1
    · exact w.n2
    · simp only [List.mem_cons,List.not_mem_nil,or_false,not_or]; exact ⟨nn e p1 (z _),nn e p2 (z _)⟩)) p
  have fin := @law_C sp hC
  have rest : ∀ (H2 : AH) (label : Tx) (inner : Bool) (many : Nat) (ρ2 : Rho),W0 H2 x y pa ca → (label = [76] ∨ label = [80,47,81]) → many ≤ 31 → (∀ n ∉ [N.n_label,.n_inner,.n_many],ρ2 n = ρ n) → ρ2 .n_label = some (.str label) → ρ2 .n_inner = some (.bool inner) → ρ2 .n_many = some (.int many) →
      wpSs sp (b_law.drop 17) ρ2 H2 (fun fl _ _ => retOf fl = .bool true) := by
    intro H2 label inner many ρ2 w2 hlab hmy hρ s1 s2 s3
    have s0 := (hρ .n_pool (by decide)).trans r0
    unfold b_law at fin ⊢
    simp only [List.drop] at fin ⊢
    walk_at "X"
    refine c_lrow hC w2.wa.P fun ra H3 l r => ?_
    have w3 := kw w2 r.p r.k
    refine c_written hC r.p r.h r.v r.n r.o fun said R rr H4 u1 u2 u3 u4 u5 u6 u7 u8 => ?_
    have w4 := kw w3 u7 u8
    have nrr : rr ≠ x.rw := Ne.symm (nf w3.wa.rw u1)
    have z := fin (ρ := putAll ρ2 [.n_said,.n_rows] [.str said,.ref rr]) w4 u2 u3 u4 u5 u6 hlab hmy nrr ((hρ .n_types (by decide)).trans r1) ((hρ .n_errors (by decide)).trans r2) ((hρ .n_structure (by decide)).trans r3) rfl rfl s1 s2 s3
      ((hρ .n_fixed (by decide)).trans r10) ((hρ .n_arrow (by decide)).trans r11) ((hρ .n_strange (by decide)).trans r12) ((hρ .n_away (by decide)).trans r13) ((hρ .n_shown (by decide)).trans r14)
    walk_at "Z"
    exact z
  unfold b_law at rest ⊢
  simp only [List.drop] at rest ⊢
  walk_at "X"
  intro c hc
  have w1 := w.new hc (o := .list [.str [76],.str [80,47,81]])
  have hcl : put H c (.list [.str [76],.str [80,47,81]]) c = some (.list [.str [76],.str [80,47,81]]) := put_same
  have nc : c ∉ [pa,ca] := w.wa.P.off hc
  generalize put H c (.list [.str [76],.str [80,47,81]]) = H1 at *
  walk_at "X"
  refine c_ltake (most := 2) hC w1.wa.P (by omega) (by omega) fun v H2 hv p2 k2 => ?_
  have w2 := kw w1 p2 k2
  have hcl2 := k2 _ _ hcl nc
  obtain ⟨label,hlab,hit⟩ : ∃ label,(label = [76] ∨ label = [80,47,81]) ∧ It [.str [76],.str [80,47,81]] (v : Int) (.str label) := by
    have : v = 0 ∨ v = 1 := by omega
    rcases this with rfl | rfl
    · exact ⟨_,.inl rfl,⟨rfl⟩⟩
    · exact ⟨_,.inr rfl,⟨rfl⟩⟩
  walk_at "X"
  refine c_ltake (most := 2) hC w2.wa.P (by omega) (by omega) fun v3 H3 hv3 p3 k3 => ?_
  have w3 := kw w2 p3 k3
  walk_at "X"
  refine c_ltake (most := 6) hC w3.wa.P (by omega) (by omega) fun v4 H4 hv4 p4 k4 => ?_
  have w4 := kw w3 p4 k4
  walk_at "X"
  refine Brn.mk (fun e => ?_) fun e => ?_
  · walk_at "X"
    refine c_ltake (most := 4) hC w4.wa.P (by omega) (by omega) fun v5 H5 hv5 p5 k5 => ?_
    have w5 := kw w4 p5 k5
    have z := rest H5 label (decide ((v3 : Int) = 1)) (28 + v5) (put (put (put ρ .n_label (.str label)) .n_inner (.bool (decide ((v3 : Int) = 1)))) .n_many (.int (28 + (v5 : Int)))) w5 hlab (by omega) (fun n hn => by
      simp only [List.mem_cons,List.not_mem_nil,or_false,not_or] at hn
      rw [put_ne hn.2.2,put_ne hn.2.1,put_ne hn.1]) rfl rfl (by rw [put_same,Int.natCast_add]; rfl)
    walk_at "Z"
    exact z
  · have z := rest H4 label (decide ((v3 : Int) = 1)) 0 (put (put (put ρ .n_label (.str label)) .n_inner (.bool (decide ((v3 : Int) = 1)))) .n_many (.int 0)) w4 hlab (by omega) (fun n hn => by
      simp only [List.mem_cons,List.not_mem_nil,or_false,not_or] at hn
      rw [put_ne hn.2.2,put_ne hn.2.1,put_ne hn.1]) rfl rfl rfl
    walk_at "Z"
    exact z
theorem c_law0 {H : AH} {a : Addr} {ns : List Int} (ha : H a = some (.ext ns)) (hl : ns.length ≤ 100000) : wpSs sp b_law (put (fun _ => none) .n_script (.ref a)) H (fun fl _ _ => retOf fl = .bool true) := by
  have c1 : okB none ∧ okB (some 20) ∧ ns.length ≤ 1000000 := ⟨trivial,⟨by omega,by omega⟩,by omega⟩
  have two := @law_A2 sp hC
  have three := @law_B sp hC
  unfold b_law at two three ⊢
  simp only [List.drop] at two three ⊢
  walk_at "X"
  intro c hc
  have c2 : ((cut none (some 20) ns).map V.int).length ≤ 1000000 := by simp [cut]; omega
  walk_at "X"
  intro ca hca
  walk_at "X"
  intro pa hpa
  have nca : ca ≠ pa := Ne.symm (fresh_put hpa).2
  have P0 : PL (put (put (put H c (.list ((cut none (some 20) ns).map V.int))) ca (.list ((cut none (some 20) ns).map V.int))) pa (.list [.ref ca,.int 0,.int 0])) pa ca :=
    ⟨cut none (some 20) ns,0,0,put_same,pt put_same nca,by omega,by omega,by simp [cut]; omega,nca⟩
  generalize put (put (put H c (.list ((cut none (some 20) ns).map V.int))) ca (.list ((cut none (some 20) ns).map V.int))) pa (.list [.ref ca,.int 0,.int 0]) = H0 at *
  walk_at "X"
  refine c_newTypes hC fun ty kn tB tC tY tI tM tL tN H1 _ _ y1 y2 bB bC bY bI bM bL bN k1 => ?_
  have P1 := P0.keep fun a o e => k1 a o e (by simp)
  walk_at "X"
  refine c_newErrors hC fun er rw pl H2 g1 g2 g3 e1 e2 e3 k2 => ?_
  have P2 := P1.keep fun a o e => k2 a o e (by simp)
  have bk : ∀ {a n form sz},BT H1 a n form sz → BT H2 a n form sz := fun ⟨f,p,q,e⟩ => ⟨f,p,q,k2 _ _ e (by simp)⟩
  have w : WA H2 ⟨ty,kn,tB,tC,tY,tI,tM,tL,tN,er,rw,pl⟩ pa ca 7 0 := ⟨k2 _ _ y1 (by simp),k2 _ _ y2 (by simp),bk bB,bk bC,bk bY,bk bI,bk bM,bk bN,e1,e2,e3,P2,P1.off g2⟩
  have z := two (x := ⟨ty,kn,tB,tC,tY,tI,tM,tL,tN,er,rw,pl⟩) (ρ := put (put (put (put (fun _ => none) .n_script (.ref a)) .n_pool (.ref pa)) .n_types (.ref ty)) .n_errors (.ref er)) (K := fun fl _ _ => retOf fl = .bool true) w rfl rfl rfl
    fun H' y ρ' w r0 r1 r2 r3 r10 r11 r12 r13 r14 => three w r0 r1 r2 r3 r10 r11 r12 r13 r14
  have y5 := k2 _ _ y1 (by simp)
  walk_at "Z"
  exact z
end
end
section
set_option maxHeartbeats 8000000
section
variable {prog : Program} {w : World} {K : Frag} {p : Program} {loose : List Str} {mean : ExcName → Option Value} {mg mb : Str → Option Value}
theorem calls_ok (hK : KOk K) (hf : ∀ f,FnOk K f) : Calls (spR prog w K p loose mean mg mb) := fun f _ _ _ _ hd h => call_sound hK (hf f) hd h
theorem start_ok {s₁ s : Shared} {L a : Addr} {m : Str → Option Value} {vs : List Value} {ns : List Int} (hL : s₁.heap.IsList a vs.toArray) (hI : IntsAre vs ns) (F : Fr s₁.heap L s.heap m) (Nw : News s₁.heap L s.heap [])
    (hs : Same s₁ s) : St prog w s₁.heap s₁.heap L m (put (fun _ => none) a (.ext ns)) [] s₁ s := by
  refine ⟨F,Nw,⟨fun _ => none,by simp,fun b o h => ?_,fun d b h => by cases h⟩,fun _ _ e => e,hs⟩
  rw [put_apply] at h
  split at h
  · rename_i e; subst e; cases h; exact ⟨vs,hL,hI⟩
  · cases h
theorem law_ok (hK : KOk K) (hf : ∀ f,FnOk K f) {s₁ s : Shared} {L a fa : Addr} {m : Str → Option Value} {vs : List Value} {ns : List Int} {sc : Scope} {cn : Str} {cd : Value} {body : List Stmt} {base : Heap} {Q : Flow → Shared → Prop} {E : Value → Shared → Prop}
    (X : K.In s₁.heap) (T : Top p loose mean mg mb s₁.heap) (B : Below callerA base [] s₁.heap) (F : Fr s₁.heap L s.heap m) (Nw : News s₁.heap L s.heap []) (hL : s₁.heap.IsList a vs.toArray) (hI : IntsAre vs ns) (hs : Same s₁ s)
    (hm : m N.n_script.str = some (.ref a)) (hl : ns.length ≤ 100000) (hk : sc.kind = .function) (hok : okSs sc (Fn.rank .f_law) b_law body = true)
    (hd : callerA.depth + 1 + (4 * Fn.rank .f_law + 8) < recursionLimit) (hu : callerA.units + 3 + (20 * Fn.rank .f_law + 100) < cLine)
    (hQ : ∀ s' m',Fr s₁.heap L s'.heap m' → s'.gens = s₁.gens → s'.os = s₁.os → Q (.ret (.bool true)) s') :
    wpAny (model prog w) (callerA.deeper (envOf cn sc L fa cd)) (execs body (envOf cn sc L fa cd)) Q E s := by
  have hA : Amb K p loose mean mg mb (callerA.deeper (envOf cn sc L fa cd)) s₁.heap (4 * Fn.rank .f_law + 8) (20 * Fn.rank .f_law + 100) := ⟨rfl,hd,hu,X,T⟩
  have hF : Frm (callerA.deeper (envOf cn sc L fa cd)) s₁.heap L (envOf cn sc L fa cd) := ⟨⟨callerA,base,[],B,rfl⟩,rfl,hk⟩
  have S := start_ok (prog := prog) (w := w) hL hI F Nw hs
  have hLR : LR [] (put (fun _ => none) N.n_script (.ref a)) m := fun x v e => by
    rw [put_apply] at e
    split at e
    · rename_i e2; subst e2; cases e; exact ⟨_,hm,.ref a⟩
    · cases e
  refine wpAny_mono (sSs hK hA hF b_law body hok _ m _ [] s _ (c_law0 (calls_ok hK hf) (a := a) (ns := ns) (by rw [put_apply,if_pos rfl]) hl) S hLR) (fun fl s' q => ?_) fun _ _ e => e.elim
  obtain ⟨fl',ρ',H',m',l',t1,t2,t3,t4,t5⟩ := q
  cases t2 with
  | next => cases t1
  | cont => cases t1
  | ret hv =>
    have t1' : _ = V.bool true := t1
    subst t1'
    cases hv
    exact hQ s' m' t4.fr t4.same.1 t4.same.2.2
end
theorem len_of {n : Nat} (h : ¬ ((63 : Nat) : Int) < (n : Int)) : n ≤ 100000 := by omega
theorem w0 : PySem.Challenge.rw_sa0508_01.Holds := hd (by
  k_go0
  rename_i K0 hD hh F0 N00
  refine law_ok (kok _) (k_fn _) (by assumption) (by assumption) K0 F0 N00 (by assumption) (by assumption) ⟨rfl,rfl,rfl⟩ (by rfl) (len_of (by assumption)) (by rfl) (by kernel_rfl) (by decide +kernel) (by decide +kernel) (fun s' m' F g o => ?_)
  refine goodW_bool F (g.trans (by assumption)) (fun _ => rfl) ?_ o
  first | wrow_post | kc_post)
end
end Mine
theorem PySem.Challenge.cw_sa0508_01_holds : PySem.Challenge.rw_sa0508_01.Holds :=
  Mine.w0
