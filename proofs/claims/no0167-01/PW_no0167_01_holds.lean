import PyProof.Rows.All
import Wide.All
import Open.Line
import OpenK.KMeth
import OpenK.KTop
import PySem.Challenge.RW_no0167_01
set_option Elab.async false
set_option genInjectivity false
set_option genSizeOf false
set_option bootstrap.genMatcherCode false

-- EK
section
open PySem PySem.W PyProof.Rows
namespace Mine
noncomputable def stAt (i : Nat) : Stmt := (PySem.Challenge.pw_no0167_01.main.body[i]?).getD (.Pass default)
noncomputable def fPar : Stmt → Arguments | .FunctionDef _ a _ _ _ _ _ _ _ _ => a | _ => default
noncomputable def fBody : Stmt → List Stmt | .FunctionDef _ _ b _ _ _ _ _ _ _ => b | _ => []
noncomputable def fScope : Stmt → Scope | .FunctionDef _ _ _ _ _ _ s _ _ _ => s | _ => default
noncomputable def cBody : Stmt → List Stmt | .ClassDef _ _ _ b _ _ _ _ _ _ _ => b | _ => []
noncomputable def mAt (i j : Nat) : Stmt := ((cBody (stAt i))[j]?).getD (.Pass default)
noncomputable abbrev f_SyntaxFault_init_st : Stmt := (mAt 2 0)
noncomputable def f_SyntaxFault_init : FuncData := FuncData.mk (Str.ofString "__init__") (Str.ofString "SyntaxFault.__init__") (fPar f_SyntaxFault_init_st) (.stmts (fBody f_SyntaxFault_init_st)) (fScope f_SyntaxFault_init_st) 3 [] Value.none Value.none Value.none (Value.str (Str.ofString "clausemill.symbols") 187) Option.none (Value.ref 40) Value.none 0
noncomputable abbrev f_is_layout_st : Stmt := (stAt 5)
noncomputable def f_is_layout : FuncData := FuncData.mk (Str.ofString "is_layout") (Str.ofString "is_layout") (fPar f_is_layout_st) (.stmts (fBody f_is_layout_st)) (fScope f_is_layout_st) 3 [] Value.none Value.none Value.none (Value.str (Str.ofString "clausemill.chars") 240) Option.none (Value.ref 52) Value.none 0
noncomputable abbrev f_is_digit_st : Stmt := (stAt 6)
noncomputable def f_is_digit : FuncData := FuncData.mk (Str.ofString "is_digit") (Str.ofString "is_digit") (fPar f_is_digit_st) (.stmts (fBody f_is_digit_st)) (fScope f_is_digit_st) 3 [] Value.none Value.none Value.none (Value.str (Str.ofString "clausemill.chars") 240) Option.none (Value.ref 59) Value.none 0
noncomputable abbrev f_is_small_st : Stmt := (stAt 7)
noncomputable def f_is_small : FuncData := FuncData.mk (Str.ofString "is_small") (Str.ofString "is_small") (fPar f_is_small_st) (.stmts (fBody f_is_small_st)) (fScope f_is_small_st) 3 [] Value.none Value.none Value.none (Value.str (Str.ofString "clausemill.chars") 240) Option.none (Value.ref 66) Value.none 0
noncomputable abbrev f_is_capital_st : Stmt := (stAt 8)
noncomputable def f_is_capital : FuncData := FuncData.mk (Str.ofString "is_capital") (Str.ofString "is_capital") (fPar f_is_capital_st) (.stmts (fBody f_is_capital_st)) (fScope f_is_capital_st) 3 [] Value.none Value.none Value.none (Value.str (Str.ofString "clausemill.chars") 240) Option.none (Value.ref 73) Value.none 0
noncomputable abbrev f_is_alnum_st : Stmt := (stAt 9)
noncomputable def f_is_alnum : FuncData := FuncData.mk (Str.ofString "is_alnum") (Str.ofString "is_alnum") (fPar f_is_alnum_st) (.stmts (fBody f_is_alnum_st)) (fScope f_is_alnum_st) 3 [] Value.none Value.none Value.none (Value.str (Str.ofString "clausemill.chars") 240) Option.none (Value.ref 80) Value.none 0
noncomputable abbrev f_is_symbol_st : Stmt := (stAt 10)
noncomputable def f_is_symbol : FuncData := FuncData.mk (Str.ofString "is_symbol") (Str.ofString "is_symbol") (fPar f_is_symbol_st) (.stmts (fBody f_is_symbol_st)) (fScope f_is_symbol_st) 3 [] Value.none Value.none Value.none (Value.str (Str.ofString "clausemill.chars") 240) Option.none (Value.ref 87) Value.none 0
noncomputable abbrev f_is_quotable_st : Stmt := (stAt 11)
noncomputable def f_is_quotable : FuncData := FuncData.mk (Str.ofString "is_quotable") (Str.ofString "is_quotable") (fPar f_is_quotable_st) (.stmts (fBody f_is_quotable_st)) (fScope f_is_quotable_st) 3 [] Value.none Value.none Value.none (Value.str (Str.ofString "clausemill.chars") 240) Option.none (Value.ref 94) Value.none 0
noncomputable abbrev f_digit_value_st : Stmt := (stAt 12)
noncomputable def f_digit_value : FuncData := FuncData.mk (Str.ofString "digit_value") (Str.ofString "digit_value") (fPar f_digit_value_st) (.stmts (fBody f_digit_value_st)) (fScope f_digit_value_st) 3 [] Value.none Value.none Value.none (Value.str (Str.ofString "clausemill.chars") 240) Option.none (Value.ref 101) Value.none 0
noncomputable abbrev f_codes_text_st : Stmt := (stAt 13)
noncomputable def f_codes_text : FuncData := FuncData.mk (Str.ofString "codes_text") (Str.ofString "codes_text") (fPar f_codes_text_st) (.stmts (fBody f_codes_text_st)) (fScope f_codes_text_st) 3 [] Value.none Value.none Value.none (Value.str (Str.ofString "clausemill.chars") 240) Option.none (Value.ref 106) Value.none 0
noncomputable abbrev f_simple_escape_st : Stmt := (stAt 32)
noncomputable def f_simple_escape : FuncData := FuncData.mk (Str.ofString "simple_escape") (Str.ofString "simple_escape") (fPar f_simple_escape_st) (.stmts (fBody f_simple_escape_st)) (fScope f_simple_escape_st) 3 [] Value.none Value.none Value.none (Value.str (Str.ofString "clausemill.tokens") 306) Option.none (Value.ref 113) Value.none 0
noncomputable abbrev f_numeral_base_st : Stmt := (stAt 33)
noncomputable def f_numeral_base : FuncData := FuncData.mk (Str.ofString "numeral_base") (Str.ofString "numeral_base") (fPar f_numeral_base_st) (.stmts (fBody f_numeral_base_st)) (fScope f_numeral_base_st) 3 [] Value.none Value.none Value.none (Value.str (Str.ofString "clausemill.tokens") 306) Option.none (Value.ref 120) Value.none 0
noncomputable abbrev f_Tokenizer_init_st : Stmt := (mAt 34 0)
noncomputable def f_Tokenizer_init : FuncData := FuncData.mk (Str.ofString "__init__") (Str.ofString "Tokenizer.__init__") (fPar f_Tokenizer_init_st) (.stmts (fBody f_Tokenizer_init_st)) (fScope f_Tokenizer_init_st) 3 [] (Value.ref 129) Value.none Value.none (Value.str (Str.ofString "clausemill.tokens") 306) Option.none (Value.ref 135) Value.none 0
noncomputable abbrev f_Tokenizer_code_at_st : Stmt := (mAt 34 1)
noncomputable def f_Tokenizer_code_at : FuncData := FuncData.mk (Str.ofString "code_at") (Str.ofString "Tokenizer.code_at") (fPar f_Tokenizer_code_at_st) (.stmts (fBody f_Tokenizer_code_at_st)) (fScope f_Tokenizer_code_at_st) 3 [] Value.none Value.none Value.none (Value.str (Str.ofString "clausemill.tokens") 306) Option.none (Value.ref 142) Value.none 0
noncomputable abbrev f_Tokenizer_place_st : Stmt := (mAt 34 2)
noncomputable def f_Tokenizer_place : FuncData := FuncData.mk (Str.ofString "place") (Str.ofString "Tokenizer.place") (fPar f_Tokenizer_place_st) (.stmts (fBody f_Tokenizer_place_st)) (fScope f_Tokenizer_place_st) 3 [] Value.none Value.none Value.none (Value.str (Str.ofString "clausemill.tokens") 306) Option.none (Value.ref 149) Value.none 0
noncomputable abbrev f_Tokenizer_fault_st : Stmt := (mAt 34 3)
noncomputable def f_Tokenizer_fault : FuncData := FuncData.mk (Str.ofString "fault") (Str.ofString "Tokenizer.fault") (fPar f_Tokenizer_fault_st) (.stmts (fBody f_Tokenizer_fault_st)) (fScope f_Tokenizer_fault_st) 3 [] Value.none Value.none Value.none (Value.str (Str.ofString "clausemill.tokens") 306) Option.none (Value.ref 156) Value.none 0
noncomputable abbrev f_Tokenizer_next_st : Stmt := (mAt 34 4)
noncomputable def f_Tokenizer_next : FuncData := FuncData.mk (Str.ofString "next") (Str.ofString "Tokenizer.next") (fPar f_Tokenizer_next_st) (.stmts (fBody f_Tokenizer_next_st)) (fScope f_Tokenizer_next_st) 3 [] Value.none Value.none Value.none (Value.str (Str.ofString "clausemill.tokens") 306) Option.none (Value.ref 163) Value.none 0
noncomputable abbrev f_Tokenizer_skip_clause_st : Stmt := (mAt 34 5)
noncomputable def f_Tokenizer_skip_clause : FuncData := FuncData.mk (Str.ofString "skip_clause") (Str.ofString "Tokenizer.skip_clause") (fPar f_Tokenizer_skip_clause_st) (.stmts (fBody f_Tokenizer_skip_clause_st)) (fScope f_Tokenizer_skip_clause_st) 3 [] Value.none Value.none Value.none (Value.str (Str.ofString "clausemill.tokens") 306) Option.none (Value.ref 170) Value.none 0
noncomputable abbrev f_Tokenizer_skip_layout_st : Stmt := (mAt 34 6)
noncomputable def f_Tokenizer_skip_layout : FuncData := FuncData.mk (Str.ofString "skip_layout") (Str.ofString "Tokenizer.skip_layout") (fPar f_Tokenizer_skip_layout_st) (.stmts (fBody f_Tokenizer_skip_layout_st)) (fScope f_Tokenizer_skip_layout_st) 3 [] Value.none Value.none Value.none (Value.str (Str.ofString "clausemill.tokens") 306) Option.none (Value.ref 177) Value.none 0
noncomputable abbrev f_Tokenizer_skip_row_st : Stmt := (mAt 34 7)
noncomputable def f_Tokenizer_skip_row : FuncData := FuncData.mk (Str.ofString "skip_row") (Str.ofString "Tokenizer.skip_row") (fPar f_Tokenizer_skip_row_st) (.stmts (fBody f_Tokenizer_skip_row_st)) (fScope f_Tokenizer_skip_row_st) 3 [] Value.none Value.none Value.none (Value.str (Str.ofString "clausemill.tokens") 306) Option.none (Value.ref 184) Value.none 0
noncomputable abbrev f_Tokenizer_skip_remark_st : Stmt := (mAt 34 8)
noncomputable def f_Tokenizer_skip_remark : FuncData := FuncData.mk (Str.ofString "skip_remark") (Str.ofString "Tokenizer.skip_remark") (fPar f_Tokenizer_skip_remark_st) (.stmts (fBody f_Tokenizer_skip_remark_st)) (fScope f_Tokenizer_skip_remark_st) 3 [] Value.none Value.none Value.none (Value.str (Str.ofString "clausemill.tokens") 306) Option.none (Value.ref 191) Value.none 0
noncomputable abbrev f_Tokenizer_word_st : Stmt := (mAt 34 9)
noncomputable def f_Tokenizer_word : FuncData := FuncData.mk (Str.ofString "word") (Str.ofString "Tokenizer.word") (fPar f_Tokenizer_word_st) (.stmts (fBody f_Tokenizer_word_st)) (fScope f_Tokenizer_word_st) 3 [] Value.none Value.none Value.none (Value.str (Str.ofString "clausemill.tokens") 306) Option.none (Value.ref 198) Value.none 0
noncomputable abbrev f_Tokenizer_symbol_st : Stmt := (mAt 34 10)
noncomputable def f_Tokenizer_symbol : FuncData := FuncData.mk (Str.ofString "symbol") (Str.ofString "Tokenizer.symbol") (fPar f_Tokenizer_symbol_st) (.stmts (fBody f_Tokenizer_symbol_st)) (fScope f_Tokenizer_symbol_st) 3 [] Value.none Value.none Value.none (Value.str (Str.ofString "clausemill.tokens") 306) Option.none (Value.ref 205) Value.none 0
noncomputable abbrev f_Tokenizer_ends_at_st : Stmt := (mAt 34 11)
noncomputable def f_Tokenizer_ends_at : FuncData := FuncData.mk (Str.ofString "ends_at") (Str.ofString "Tokenizer.ends_at") (fPar f_Tokenizer_ends_at_st) (.stmts (fBody f_Tokenizer_ends_at_st)) (fScope f_Tokenizer_ends_at_st) 3 [] Value.none Value.none Value.none (Value.str (Str.ofString "clausemill.tokens") 306) Option.none (Value.ref 212) Value.none 0
noncomputable abbrev f_Tokenizer_numeral_st : Stmt := (mAt 34 12)
noncomputable def f_Tokenizer_numeral : FuncData := FuncData.mk (Str.ofString "numeral") (Str.ofString "Tokenizer.numeral") (fPar f_Tokenizer_numeral_st) (.stmts (fBody f_Tokenizer_numeral_st)) (fScope f_Tokenizer_numeral_st) 3 [] Value.none Value.none Value.none (Value.str (Str.ofString "clausemill.tokens") 306) Option.none (Value.ref 219) Value.none 0
noncomputable abbrev f_Tokenizer_digits_st : Stmt := (mAt 34 13)
noncomputable def f_Tokenizer_digits : FuncData := FuncData.mk (Str.ofString "digits") (Str.ofString "Tokenizer.digits") (fPar f_Tokenizer_digits_st) (.stmts (fBody f_Tokenizer_digits_st)) (fScope f_Tokenizer_digits_st) 3 [] Value.none Value.none Value.none (Value.str (Str.ofString "clausemill.tokens") 306) Option.none (Value.ref 226) Value.none 0
noncomputable abbrev f_Tokenizer_character_st : Stmt := (mAt 34 14)
noncomputable def f_Tokenizer_character : FuncData := FuncData.mk (Str.ofString "character") (Str.ofString "Tokenizer.character") (fPar f_Tokenizer_character_st) (.stmts (fBody f_Tokenizer_character_st)) (fScope f_Tokenizer_character_st) 3 [] Value.none Value.none Value.none (Value.str (Str.ofString "clausemill.tokens") 306) Option.none (Value.ref 233) Value.none 0
noncomputable abbrev f_Tokenizer_quoted_st : Stmt := (mAt 34 15)
noncomputable def f_Tokenizer_quoted : FuncData := FuncData.mk (Str.ofString "quoted") (Str.ofString "Tokenizer.quoted") (fPar f_Tokenizer_quoted_st) (.stmts (fBody f_Tokenizer_quoted_st)) (fScope f_Tokenizer_quoted_st) 3 [] Value.none Value.none Value.none (Value.str (Str.ofString "clausemill.tokens") 306) Option.none (Value.ref 240) Value.none 0
noncomputable abbrev f_Tokenizer_escape_st : Stmt := (mAt 34 16)
noncomputable def f_Tokenizer_escape : FuncData := FuncData.mk (Str.ofString "escape") (Str.ofString "Tokenizer.escape") (fPar f_Tokenizer_escape_st) (.stmts (fBody f_Tokenizer_escape_st)) (fScope f_Tokenizer_escape_st) 3 [] Value.none Value.none Value.none (Value.str (Str.ofString "clausemill.tokens") 306) Option.none (Value.ref 247) Value.none 0
noncomputable abbrev f_Tokenizer_abandon_st : Stmt := (mAt 34 17)
noncomputable def f_Tokenizer_abandon : FuncData := FuncData.mk (Str.ofString "abandon") (Str.ofString "Tokenizer.abandon") (fPar f_Tokenizer_abandon_st) (.stmts (fBody f_Tokenizer_abandon_st)) (fScope f_Tokenizer_abandon_st) 3 [] Value.none Value.none Value.none (Value.str (Str.ofString "clausemill.tokens") 306) Option.none (Value.ref 254) Value.none 0
noncomputable abbrev f_law_pool_st : Stmt := (stAt 36)
noncomputable def f_law_pool : FuncData := FuncData.mk (Str.ofString "_law_pool") (Str.ofString "_law_pool") (fPar f_law_pool_st) (.stmts (fBody f_law_pool_st)) (fScope f_law_pool_st) 3 [] Value.none Value.none Value.none (Value.str (Str.ofString "law_no0167_01") 565) Option.none (Value.ref 268) Value.none 0
noncomputable abbrev f_law_pick_st : Stmt := (stAt 37)
noncomputable def f_law_pick : FuncData := FuncData.mk (Str.ofString "_law_pick") (Str.ofString "_law_pick") (fPar f_law_pick_st) (.stmts (fBody f_law_pick_st)) (fScope f_law_pick_st) 3 [] Value.none Value.none Value.none (Value.str (Str.ofString "law_no0167_01") 565) Option.none (Value.ref 275) Value.none 0
noncomputable abbrev f_law_ords_st : Stmt := (stAt 38)
noncomputable def f_law_ords : FuncData := FuncData.mk (Str.ofString "_law_ords") (Str.ofString "_law_ords") (fPar f_law_ords_st) (.stmts (fBody f_law_ords_st)) (fScope f_law_ords_st) 3 [] Value.none Value.none Value.none (Value.str (Str.ofString "law_no0167_01") 565) Option.none (Value.ref 280) Value.none 0
noncomputable abbrev f_law_figures_st : Stmt := (stAt 39)
noncomputable def f_law_figures : FuncData := FuncData.mk (Str.ofString "_law_figures") (Str.ofString "_law_figures") (fPar f_law_figures_st) (.stmts (fBody f_law_figures_st)) (fScope f_law_figures_st) 3 [] Value.none Value.none Value.none (Value.str (Str.ofString "law_no0167_01") 565) Option.none (Value.ref 287) Value.none 0
noncomputable abbrev f_law_code_st : Stmt := (stAt 40)
noncomputable def f_law_code : FuncData := FuncData.mk (Str.ofString "_law_code") (Str.ofString "_law_code") (fPar f_law_code_st) (.stmts (fBody f_law_code_st)) (fScope f_law_code_st) 3 [] Value.none Value.none Value.none (Value.str (Str.ofString "law_no0167_01") 565) Option.none (Value.ref 294) Value.none 0
noncomputable abbrev f_law_plain_st : Stmt := (stAt 41)
noncomputable def f_law_plain : FuncData := FuncData.mk (Str.ofString "_law_plain") (Str.ofString "_law_plain") (fPar f_law_plain_st) (.stmts (fBody f_law_plain_st)) (fScope f_law_plain_st) 3 [] Value.none Value.none Value.none (Value.str (Str.ofString "law_no0167_01") 565) Option.none (Value.ref 301) Value.none 0
noncomputable abbrev f_law_escape_st : Stmt := (stAt 42)
noncomputable def f_law_escape : FuncData := FuncData.mk (Str.ofString "_law_escape") (Str.ofString "_law_escape") (fPar f_law_escape_st) (.stmts (fBody f_law_escape_st)) (fScope f_law_escape_st) 3 [] Value.none Value.none Value.none (Value.str (Str.ofString "law_no0167_01") 565) Option.none (Value.ref 308) Value.none 0
noncomputable abbrev f_law_quoted_st : Stmt := (stAt 43)
noncomputable def f_law_quoted : FuncData := FuncData.mk (Str.ofString "_law_quoted") (Str.ofString "_law_quoted") (fPar f_law_quoted_st) (.stmts (fBody f_law_quoted_st)) (fScope f_law_quoted_st) 3 [] Value.none Value.none Value.none (Value.str (Str.ofString "law_no0167_01") 565) Option.none (Value.ref 315) Value.none 0
noncomputable abbrev f_law_word_st : Stmt := (stAt 44)
noncomputable def f_law_word : FuncData := FuncData.mk (Str.ofString "_law_word") (Str.ofString "_law_word") (fPar f_law_word_st) (.stmts (fBody f_law_word_st)) (fScope f_law_word_st) 3 [] Value.none Value.none Value.none (Value.str (Str.ofString "law_no0167_01") 565) Option.none (Value.ref 322) Value.none 0
noncomputable abbrev f_law_number_st : Stmt := (stAt 45)
noncomputable def f_law_number : FuncData := FuncData.mk (Str.ofString "_law_number") (Str.ofString "_law_number") (fPar f_law_number_st) (.stmts (fBody f_law_number_st)) (fScope f_law_number_st) 3 [] Value.none Value.none Value.none (Value.str (Str.ofString "law_no0167_01") 565) Option.none (Value.ref 329) Value.none 0
noncomputable abbrev f_law_token_st : Stmt := (stAt 46)
noncomputable def f_law_token : FuncData := FuncData.mk (Str.ofString "_law_token") (Str.ofString "_law_token") (fPar f_law_token_st) (.stmts (fBody f_law_token_st)) (fScope f_law_token_st) 3 [] Value.none Value.none Value.none (Value.str (Str.ofString "law_no0167_01") 565) Option.none (Value.ref 334) Value.none 0
noncomputable abbrev f_law_gap_st : Stmt := (stAt 47)
noncomputable def f_law_gap : FuncData := FuncData.mk (Str.ofString "_law_gap") (Str.ofString "_law_gap") (fPar f_law_gap_st) (.stmts (fBody f_law_gap_st)) (fScope f_law_gap_st) 3 [] Value.none Value.none Value.none (Value.str (Str.ofString "law_no0167_01") 565) Option.none (Value.ref 341) Value.none 0
noncomputable abbrev f_law_place_st : Stmt := (stAt 48)
noncomputable def f_law_place : FuncData := FuncData.mk (Str.ofString "_law_place") (Str.ofString "_law_place") (fPar f_law_place_st) (.stmts (fBody f_law_place_st)) (fScope f_law_place_st) 3 [] Value.none Value.none Value.none (Value.str (Str.ofString "law_no0167_01") 565) Option.none (Value.ref 348) Value.none 0
noncomputable abbrev f_law_faults_st : Stmt := (stAt 49)
noncomputable def f_law_faults : FuncData := FuncData.mk (Str.ofString "_law_faults") (Str.ofString "_law_faults") (fPar f_law_faults_st) (.stmts (fBody f_law_faults_st)) (fScope f_law_faults_st) 3 [] Value.none Value.none Value.none (Value.str (Str.ofString "law_no0167_01") 565) Option.none (Value.ref 355) Value.none 0
noncomputable abbrev f_law_st : Stmt := (stAt 50)
noncomputable def f_law : FuncData := FuncData.mk (Str.ofString "law") (Str.ofString "law") (fPar f_law_st) (.stmts (fBody f_law_st)) (fScope f_law_st) 3 [] Value.none Value.none Value.none (Value.str (Str.ofString "law_no0167_01") 565) Option.none (Value.ref 360) Value.none 0
noncomputable def KF (P : Params) : Frag := [
  (3, Obj.mk (Value.type "dict") Option.none (Data.dict #[DictEntry.mk (PySem.PyData.keyHash P (Str.ofString "__name__")) (Value.str (Str.ofString "__name__") 165) (Value.str (Str.ofString "law_no0167_01") 565), DictEntry.mk (PySem.PyData.keyHash P (Str.ofString "__doc__")) (Value.str (Str.ofString "__doc__") 166) Value.none, DictEntry.mk (PySem.PyData.keyHash P (Str.ofString "__package__")) (Value.str (Str.ofString "__package__") 167) Value.none, DictEntry.mk (PySem.PyData.keyHash P (Str.ofString "__loader__")) (Value.str (Str.ofString "__loader__") 168) (Value.builtin "__main__.__loader__#opaque"), DictEntry.mk (PySem.PyData.keyHash P (Str.ofString "__spec__")) (Value.str (Str.ofString "__spec__") 169) Value.none, DictEntry.mk (PySem.PyData.keyHash P (Str.ofString "__annotations__")) (Value.str (Str.ofString "__annotations__") 170) (Value.ref 6), DictEntry.mk (PySem.PyData.keyHash P (Str.ofString "__builtins__")) (Value.str (Str.ofString "__builtins__") 171) (Value.ref 4), DictEntry.mk (PySem.PyData.keyHash P (Str.ofString "__file__")) (Value.str (Str.ofString "__file__") 173) (Value.str (Str.ofString "/claim/cut.py") 172), DictEntry.mk (PySem.PyData.keyHash P (Str.ofString "__cached__")) (Value.str (Str.ofString "__cached__") 174) Value.none, DictEntry.mk (PySem.PyData.keyHash P (Str.ofString "ClausemillError")) (Value.str (Str.ofString "ClausemillError") 208) (Value.ref 24), DictEntry.mk (PySem.PyData.keyHash P (Str.ofString "SyntaxFault")) (Value.str (Str.ofString "SyntaxFault") 239) (Value.ref 44), DictEntry.mk (PySem.PyData.keyHash P (Str.ofString "MAX_CODE")) (Value.str (Str.ofString "MAX_CODE") 243) (Value.int 1114111 242), DictEntry.mk (PySem.PyData.keyHash P (Str.ofString "is_layout")) (Value.str (Str.ofString "is_layout") 250) (Value.ref 53), DictEntry.mk (PySem.PyData.keyHash P (Str.ofString "is_digit")) (Value.str (Str.ofString "is_digit") 257) (Value.ref 60), DictEntry.mk (PySem.PyData.keyHash P (Str.ofString "is_small")) (Value.str (Str.ofString "is_small") 264) (Value.ref 67), DictEntry.mk (PySem.PyData.keyHash P (Str.ofString "is_capital")) (Value.str (Str.ofString "is_capital") 271) (Value.ref 74), DictEntry.mk (PySem.PyData.keyHash P (Str.ofString "is_alnum")) (Value.str (Str.ofString "is_alnum") 278) (Value.ref 81), DictEntry.mk (PySem.PyData.keyHash P (Str.ofString "is_symbol")) (Value.str (Str.ofString "is_symbol") 285) (Value.ref 88), DictEntry.mk (PySem.PyData.keyHash P (Str.ofString "is_quotable")) (Value.str (Str.ofString "is_quotable") 292) (Value.ref 95), DictEntry.mk (PySem.PyData.keyHash P (Str.ofString "digit_value")) (Value.str (Str.ofString "digit_value") 299) (Value.ref 102), DictEntry.mk (PySem.PyData.keyHash P (Str.ofString "codes_text")) (Value.str (Str.ofString "codes_text") 305) (Value.ref 107), DictEntry.mk (PySem.PyData.keyHash P (Str.ofString "NO_CODE")) (Value.str (Str.ofString "NO_CODE") 310) (Value.int (-1) 309), DictEntry.mk (PySem.PyData.keyHash P (Str.ofString "BAD_CODE")) (Value.str (Str.ofString "BAD_CODE") 313) (Value.int (-2) 312), DictEntry.mk (PySem.PyData.keyHash P (Str.ofString "NEW_LINE")) (Value.str (Str.ofString "NEW_LINE") 315) (Value.int 10 314), DictEntry.mk (PySem.PyData.keyHash P (Str.ofString "DOUBLE_QUOTE")) (Value.str (Str.ofString "DOUBLE_QUOTE") 317) (Value.int 34 316), DictEntry.mk (PySem.PyData.keyHash P (Str.ofString "PERCENT")) (Value.str (Str.ofString "PERCENT") 319) (Value.int 37 318), DictEntry.mk (PySem.PyData.keyHash P (Str.ofString "QUOTE")) (Value.str (Str.ofString "QUOTE") 321) (Value.int 39 320), DictEntry.mk (PySem.PyData.keyHash P (Str.ofString "OPEN")) (Value.str (Str.ofString "OPEN") 323) (Value.int 40 322), DictEntry.mk (PySem.PyData.keyHash P (Str.ofString "STAR")) (Value.str (Str.ofString "STAR") 325) (Value.int 42 324), DictEntry.mk (PySem.PyData.keyHash P (Str.ofString "DOT")) (Value.str (Str.ofString "DOT") 327) (Value.int 46 326), DictEntry.mk (PySem.PyData.keyHash P (Str.ofString "SLASH")) (Value.str (Str.ofString "SLASH") 329) (Value.int 47 328), DictEntry.mk (PySem.PyData.keyHash P (Str.ofString "DIGIT_ZERO")) (Value.str (Str.ofString "DIGIT_ZERO") 331) (Value.int 48 330), DictEntry.mk (PySem.PyData.keyHash P (Str.ofString "BACKSLASH")) (Value.str (Str.ofString "BACKSLASH") 333) (Value.int 92 332), DictEntry.mk (PySem.PyData.keyHash P (Str.ofString "UNDERSCORE")) (Value.str (Str.ofString "UNDERSCORE") 335) (Value.int 95 334), DictEntry.mk (PySem.PyData.keyHash P (Str.ofString "BACK_QUOTE")) (Value.str (Str.ofString "BACK_QUOTE") 337) (Value.int 96 336), DictEntry.mk (PySem.PyData.keyHash P (Str.ofString "LETTER_B")) (Value.str (Str.ofString "LETTER_B") 339) (Value.int 98 338), DictEntry.mk (PySem.PyData.keyHash P (Str.ofString "LETTER_O")) (Value.str (Str.ofString "LETTER_O") 341) (Value.int 111 340), DictEntry.mk (PySem.PyData.keyHash P (Str.ofString "LETTER_X")) (Value.str (Str.ofString "LETTER_X") 343) (Value.int 120 342), DictEntry.mk (PySem.PyData.keyHash P (Str.ofString "simple_escape")) (Value.str (Str.ofString "simple_escape") 352) (Value.ref 114), DictEntry.mk (PySem.PyData.keyHash P (Str.ofString "numeral_base")) (Value.str (Str.ofString "numeral_base") 359) (Value.ref 121), DictEntry.mk (PySem.PyData.keyHash P (Str.ofString "Tokenizer")) (Value.str (Str.ofString "Tokenizer") 564) (Value.ref 258), DictEntry.mk (PySem.PyData.keyHash P (Str.ofString "_law_pool")) (Value.str (Str.ofString "_law_pool") 579) (Value.ref 269), DictEntry.mk (PySem.PyData.keyHash P (Str.ofString "_law_pick")) (Value.str (Str.ofString "_law_pick") 588) (Value.ref 276), DictEntry.mk (PySem.PyData.keyHash P (Str.ofString "_law_ords")) (Value.str (Str.ofString "_law_ords") 594) (Value.ref 281), DictEntry.mk (PySem.PyData.keyHash P (Str.ofString "_law_figures")) (Value.str (Str.ofString "_law_figures") 605) (Value.ref 288), DictEntry.mk (PySem.PyData.keyHash P (Str.ofString "_law_code")) (Value.str (Str.ofString "_law_code") 614) (Value.ref 295), DictEntry.mk (PySem.PyData.keyHash P (Str.ofString "_law_plain")) (Value.str (Str.ofString "_law_plain") 623) (Value.ref 302), DictEntry.mk (PySem.PyData.keyHash P (Str.ofString "_law_escape")) (Value.str (Str.ofString "_law_escape") 634) (Value.ref 309), DictEntry.mk (PySem.PyData.keyHash P (Str.ofString "_law_quoted")) (Value.str (Str.ofString "_law_quoted") 648) (Value.ref 316), DictEntry.mk (PySem.PyData.keyHash P (Str.ofString "_law_word")) (Value.str (Str.ofString "_law_word") 658) (Value.ref 323), DictEntry.mk (PySem.PyData.keyHash P (Str.ofString "_law_number")) (Value.str (Str.ofString "_law_number") 671) (Value.ref 330), DictEntry.mk (PySem.PyData.keyHash P (Str.ofString "_law_token")) (Value.str (Str.ofString "_law_token") 677) (Value.ref 335), DictEntry.mk (PySem.PyData.keyHash P (Str.ofString "_law_gap")) (Value.str (Str.ofString "_law_gap") 691) (Value.ref 342), DictEntry.mk (PySem.PyData.keyHash P (Str.ofString "_law_place")) (Value.str (Str.ofString "_law_place") 702) (Value.ref 349), DictEntry.mk (PySem.PyData.keyHash P (Str.ofString "_law_faults")) (Value.str (Str.ofString "_law_faults") 710) (Value.ref 356), DictEntry.mk (PySem.PyData.keyHash P (Str.ofString "law")) (Value.str (Str.ofString "law") 716) (Value.ref 361)] 56) #[]),
  (23, Obj.mk (Value.type "dict") Option.none (Data.dict #[DictEntry.mk (PySem.PyData.keyHash P (Str.ofString "__module__")) (Value.str (Str.ofString "__module__") 196) (Value.str (Str.ofString "clausemill.symbols") 187), DictEntry.mk (PySem.PyData.keyHash P (Str.ofString "__firstlineno__")) (Value.str (Str.ofString "__firstlineno__") 200) (Value.int 2 199), DictEntry.mk (PySem.PyData.keyHash P (Str.ofString "__static_attributes__")) (Value.str (Str.ofString "__static_attributes__") 201) (Value.ref 22), DictEntry.mk (PySem.PyData.keyHash P (Str.ofString "__weakref__")) (Value.str (Str.ofString "__weakref__") 203) (Value.ref 25), DictEntry.mk (PySem.PyData.keyHash P (Str.ofString "__doc__")) (Value.str (Str.ofString "__doc__") 204) Value.none] 3) #[]),
  (24, Obj.mk (Value.type "type") Option.none (Data.cls (PySem.ClassData.mk (Str.ofString "ClausemillError") [Value.type "Exception"] [Value.ref 24, Value.type "Exception", Value.type "BaseException", Value.type "object"] 23 (Str.ofString "ClausemillError") Bool.true [] [Value.ref 44] Bool.false Option.none Bool.false)) #[Option.some (Value.ref 15), Option.none, Option.some (Value.str (Str.ofString "ClausemillError") 189), Option.some (Value.str (Str.ofString "ClausemillError") 197), Option.some (Value.builtin "Exception.__new__"), Option.some (Value.bool Bool.true)]),
  (25, Obj.mk (Value.type "getset_descriptor") Option.none (Data.fields #[Value.str (Str.ofString "__weakref__") 202, Value.ref 24, Value.builtin "ExceptionGroup.__weakref__", Value.none]) #[]),
  (40, Obj.mk (Value.type "code") Option.none (Data.fields #[Value.str (Str.ofString "__init__") 221, Value.str (Str.ofString "SyntaxFault.__init__") 222, Value.str (Str.ofString "/claim/cut.py") 223, Value.int 6 0, Value.int 5 0, Value.int 0 0, Value.int 0 0, Value.int 3 0, Value.ref 35, Value.bool Bool.true, Value.int 181 0, Value.ref 36, Value.none, Value.ref 37, Value.ref 38, Value.ref 39, Value.int 229 0, Value.int 6 0, Value.str (Str.ofString "/claim/cut.py") 230]) #[]),
  (41, Obj.mk (Value.type "function") Option.none (Data.func f_SyntaxFault_init) #[]),
  (43, Obj.mk (Value.type "dict") Option.none (Data.dict #[DictEntry.mk (PySem.PyData.keyHash P (Str.ofString "__module__")) (Value.str (Str.ofString "__module__") 216) (Value.str (Str.ofString "clausemill.symbols") 187), DictEntry.mk (PySem.PyData.keyHash P (Str.ofString "__firstlineno__")) (Value.str (Str.ofString "__firstlineno__") 220) (Value.int 4 219), DictEntry.mk (PySem.PyData.keyHash P (Str.ofString "__init__")) (Value.str (Str.ofString "__init__") 231) (Value.ref 41), DictEntry.mk (PySem.PyData.keyHash P (Str.ofString "__static_attributes__")) (Value.str (Str.ofString "__static_attributes__") 236) (Value.ref 42), DictEntry.mk (PySem.PyData.keyHash P (Str.ofString "__doc__")) (Value.str (Str.ofString "__doc__") 237) Value.none] 2) #[]),
  (44, Obj.mk (Value.type "type") Option.none (Data.cls (PySem.ClassData.mk (Str.ofString "SyntaxFault") [Value.ref 24] [Value.ref 44, Value.ref 24, Value.type "Exception", Value.type "BaseException", Value.type "object"] 43 (Str.ofString "SyntaxFault") Bool.true [] [] Bool.false Option.none Bool.false)) #[Option.some (Value.ref 28), Option.none, Option.some (Value.str (Str.ofString "SyntaxFault") 209), Option.some (Value.str (Str.ofString "SyntaxFault") 217), Option.some (Value.builtin "Exception.__new__"), Option.some (Value.bool Bool.true)]),
  (52, Obj.mk (Value.type "code") Option.none (Data.fields #[Value.str (Str.ofString "is_layout") 244, Value.str (Str.ofString "is_layout") 245, Value.str (Str.ofString "/claim/cut.py") 246, Value.int 13 0, Value.int 1 0, Value.int 0 0, Value.int 0 0, Value.int 3 0, Value.ref 47, Value.bool Bool.true, Value.int 181 0, Value.ref 48, Value.none, Value.ref 49, Value.ref 50, Value.ref 51, Value.int 248 0, Value.int 13 0, Value.str (Str.ofString "/claim/cut.py") 249]) #[]),
  (53, Obj.mk (Value.type "function") Option.none (Data.func f_is_layout) #[]),
  (59, Obj.mk (Value.type "code") Option.none (Data.fields #[Value.str (Str.ofString "is_digit") 251, Value.str (Str.ofString "is_digit") 252, Value.str (Str.ofString "/claim/cut.py") 253, Value.int 15 0, Value.int 1 0, Value.int 0 0, Value.int 0 0, Value.int 3 0, Value.ref 54, Value.bool Bool.true, Value.int 181 0, Value.ref 55, Value.none, Value.ref 56, Value.ref 57, Value.ref 58, Value.int 255 0, Value.int 15 0, Value.str (Str.ofString "/claim/cut.py") 256]) #[]),
  (60, Obj.mk (Value.type "function") Option.none (Data.func f_is_digit) #[]),
  (66, Obj.mk (Value.type "code") Option.none (Data.fields #[Value.str (Str.ofString "is_small") 258, Value.str (Str.ofString "is_small") 259, Value.str (Str.ofString "/claim/cut.py") 260, Value.int 17 0, Value.int 1 0, Value.int 0 0, Value.int 0 0, Value.int 3 0, Value.ref 61, Value.bool Bool.true, Value.int 181 0, Value.ref 62, Value.none, Value.ref 63, Value.ref 64, Value.ref 65, Value.int 262 0, Value.int 17 0, Value.str (Str.ofString "/claim/cut.py") 263]) #[]),
  (67, Obj.mk (Value.type "function") Option.none (Data.func f_is_small) #[]),
  (73, Obj.mk (Value.type "code") Option.none (Data.fields #[Value.str (Str.ofString "is_capital") 265, Value.str (Str.ofString "is_capital") 266, Value.str (Str.ofString "/claim/cut.py") 267, Value.int 19 0, Value.int 1 0, Value.int 0 0, Value.int 0 0, Value.int 3 0, Value.ref 68, Value.bool Bool.true, Value.int 181 0, Value.ref 69, Value.none, Value.ref 70, Value.ref 71, Value.ref 72, Value.int 269 0, Value.int 19 0, Value.str (Str.ofString "/claim/cut.py") 270]) #[]),
  (74, Obj.mk (Value.type "function") Option.none (Data.func f_is_capital) #[]),
  (80, Obj.mk (Value.type "code") Option.none (Data.fields #[Value.str (Str.ofString "is_alnum") 272, Value.str (Str.ofString "is_alnum") 273, Value.str (Str.ofString "/claim/cut.py") 274, Value.int 21 0, Value.int 1 0, Value.int 0 0, Value.int 0 0, Value.int 3 0, Value.ref 75, Value.bool Bool.true, Value.int 181 0, Value.ref 76, Value.none, Value.ref 77, Value.ref 78, Value.ref 79, Value.int 276 0, Value.int 21 0, Value.str (Str.ofString "/claim/cut.py") 277]) #[]),
  (81, Obj.mk (Value.type "function") Option.none (Data.func f_is_alnum) #[]),
  (87, Obj.mk (Value.type "code") Option.none (Data.fields #[Value.str (Str.ofString "is_symbol") 279, Value.str (Str.ofString "is_symbol") 280, Value.str (Str.ofString "/claim/cut.py") 281, Value.int 23 0, Value.int 1 0, Value.int 0 0, Value.int 0 0, Value.int 3 0, Value.ref 82, Value.bool Bool.true, Value.int 181 0, Value.ref 83, Value.none, Value.ref 84, Value.ref 85, Value.ref 86, Value.int 283 0, Value.int 23 0, Value.str (Str.ofString "/claim/cut.py") 284]) #[]),
  (88, Obj.mk (Value.type "function") Option.none (Data.func f_is_symbol) #[]),
  (94, Obj.mk (Value.type "code") Option.none (Data.fields #[Value.str (Str.ofString "is_quotable") 286, Value.str (Str.ofString "is_quotable") 287, Value.str (Str.ofString "/claim/cut.py") 288, Value.int 25 0, Value.int 1 0, Value.int 0 0, Value.int 0 0, Value.int 3 0, Value.ref 89, Value.bool Bool.true, Value.int 181 0, Value.ref 90, Value.none, Value.ref 91, Value.ref 92, Value.ref 93, Value.int 290 0, Value.int 25 0, Value.str (Str.ofString "/claim/cut.py") 291]) #[]),
  (95, Obj.mk (Value.type "function") Option.none (Data.func f_is_quotable) #[]),
  (101, Obj.mk (Value.type "code") Option.none (Data.fields #[Value.str (Str.ofString "digit_value") 293, Value.str (Str.ofString "digit_value") 294, Value.str (Str.ofString "/claim/cut.py") 295, Value.int 27 0, Value.int 1 0, Value.int 0 0, Value.int 0 0, Value.int 3 0, Value.ref 96, Value.bool Bool.true, Value.int 181 0, Value.ref 97, Value.none, Value.ref 98, Value.ref 99, Value.ref 100, Value.int 297 0, Value.int 27 0, Value.str (Str.ofString "/claim/cut.py") 298]) #[]),
  (102, Obj.mk (Value.type "function") Option.none (Data.func f_digit_value) #[]),
  (106, Obj.mk (Value.type "code") Option.none (Data.fields #[Value.str (Str.ofString "codes_text") 300, Value.str (Str.ofString "codes_text") 301, Value.str (Str.ofString "/claim/cut.py") 302, Value.int 35 0, Value.int 1 0, Value.int 0 0, Value.int 0 0, Value.int 3 0, Value.ref 103, Value.bool Bool.true, Value.int 181 0, Value.ref 104, Value.none, Value.none, Value.none, Value.ref 105, Value.int 303 0, Value.int 35 0, Value.str (Str.ofString "/claim/cut.py") 304]) #[]),
  (107, Obj.mk (Value.type "function") Option.none (Data.func f_codes_text) #[]),
  (113, Obj.mk (Value.type "code") Option.none (Data.fields #[Value.str (Str.ofString "simple_escape") 344, Value.str (Str.ofString "simple_escape") 345, Value.str (Str.ofString "/claim/cut.py") 346, Value.int 55 0, Value.int 1 0, Value.int 0 0, Value.int 0 0, Value.int 3 0, Value.ref 108, Value.bool Bool.true, Value.int 181 0, Value.ref 109, Value.none, Value.ref 110, Value.ref 111, Value.ref 112, Value.int 350 0, Value.int 55 0, Value.str (Str.ofString "/claim/cut.py") 351]) #[]),
  (114, Obj.mk (Value.type "function") Option.none (Data.func f_simple_escape) #[]),
  (120, Obj.mk (Value.type "code") Option.none (Data.fields #[Value.str (Str.ofString "numeral_base") 353, Value.str (Str.ofString "numeral_base") 354, Value.str (Str.ofString "/claim/cut.py") 355, Value.int 63 0, Value.int 1 0, Value.int 0 0, Value.int 0 0, Value.int 3 0, Value.ref 115, Value.bool Bool.true, Value.int 181 0, Value.ref 116, Value.none, Value.ref 117, Value.ref 118, Value.ref 119, Value.int 357 0, Value.int 63 0, Value.str (Str.ofString "/claim/cut.py") 358]) #[]),
  (121, Obj.mk (Value.type "function") Option.none (Data.func f_numeral_base) #[]),
  (129, Obj.mk (Value.type "tuple") Option.none (Data.seq #[Value.int 0 372]) #[]),
  (135, Obj.mk (Value.type "code") Option.none (Data.fields #[Value.str (Str.ofString "__init__") 373, Value.str (Str.ofString "Tokenizer.__init__") 374, Value.str (Str.ofString "/claim/cut.py") 375, Value.int 73 0, Value.int 3 0, Value.int 0 0, Value.int 0 0, Value.int 3 0, Value.ref 130, Value.bool Bool.true, Value.int 181 0, Value.ref 131, Value.none, Value.ref 132, Value.ref 133, Value.ref 134, Value.int 379 0, Value.int 73 0, Value.str (Str.ofString "/claim/cut.py") 380]) #[]),
  (136, Obj.mk (Value.type "function") Option.none (Data.func f_Tokenizer_init) #[]),
  (142, Obj.mk (Value.type "code") Option.none (Data.fields #[Value.str (Str.ofString "code_at") 382, Value.str (Str.ofString "Tokenizer.code_at") 383, Value.str (Str.ofString "/claim/cut.py") 384, Value.int 78 0, Value.int 2 0, Value.int 0 0, Value.int 0 0, Value.int 3 0, Value.ref 137, Value.bool Bool.true, Value.int 181 0, Value.ref 138, Value.none, Value.ref 139, Value.ref 140, Value.ref 141, Value.int 388 0, Value.int 78 0, Value.str (Str.ofString "/claim/cut.py") 389]) #[]),
  (143, Obj.mk (Value.type "function") Option.none (Data.func f_Tokenizer_code_at) #[]),
  (149, Obj.mk (Value.type "code") Option.none (Data.fields #[Value.str (Str.ofString "place") 391, Value.str (Str.ofString "Tokenizer.place") 392, Value.str (Str.ofString "/claim/cut.py") 393, Value.int 86 0, Value.int 2 0, Value.int 0 0, Value.int 0 0, Value.int 3 0, Value.ref 144, Value.bool Bool.true, Value.int 181 0, Value.ref 145, Value.none, Value.ref 146, Value.ref 147, Value.ref 148, Value.int 399 0, Value.int 86 0, Value.str (Str.ofString "/claim/cut.py") 400]) #[]),
  (150, Obj.mk (Value.type "function") Option.none (Data.func f_Tokenizer_place) #[]),
  (156, Obj.mk (Value.type "code") Option.none (Data.fields #[Value.str (Str.ofString "fault") 402, Value.str (Str.ofString "Tokenizer.fault") 403, Value.str (Str.ofString "/claim/cut.py") 404, Value.int 99 0, Value.int 3 0, Value.int 0 0, Value.int 0 0, Value.int 3 0, Value.ref 151, Value.bool Bool.true, Value.int 181 0, Value.ref 152, Value.none, Value.ref 153, Value.ref 154, Value.ref 155, Value.int 410 0, Value.int 99 0, Value.str (Str.ofString "/claim/cut.py") 411]) #[]),
  (157, Obj.mk (Value.type "function") Option.none (Data.func f_Tokenizer_fault) #[]),
  (163, Obj.mk (Value.type "code") Option.none (Data.fields #[Value.str (Str.ofString "next") 413, Value.str (Str.ofString "Tokenizer.next") 414, Value.str (Str.ofString "/claim/cut.py") 415, Value.int 103 0, Value.int 1 0, Value.int 0 0, Value.int 0 0, Value.int 3 0, Value.ref 158, Value.bool Bool.true, Value.int 181 0, Value.ref 159, Value.none, Value.ref 160, Value.ref 161, Value.ref 162, Value.int 421 0, Value.int 103 0, Value.str (Str.ofString "/claim/cut.py") 422]) #[]),
  (164, Obj.mk (Value.type "function") Option.none (Data.func f_Tokenizer_next) #[]),
  (170, Obj.mk (Value.type "code") Option.none (Data.fields #[Value.str (Str.ofString "skip_clause") 424, Value.str (Str.ofString "Tokenizer.skip_clause") 425, Value.str (Str.ofString "/claim/cut.py") 426, Value.int 137 0, Value.int 1 0, Value.int 0 0, Value.int 0 0, Value.int 3 0, Value.ref 165, Value.bool Bool.true, Value.int 181 0, Value.ref 166, Value.none, Value.ref 167, Value.ref 168, Value.ref 169, Value.int 429 0, Value.int 137 0, Value.str (Str.ofString "/claim/cut.py") 430]) #[]),
  (171, Obj.mk (Value.type "function") Option.none (Data.func f_Tokenizer_skip_clause) #[]),
  (177, Obj.mk (Value.type "code") Option.none (Data.fields #[Value.str (Str.ofString "skip_layout") 432, Value.str (Str.ofString "Tokenizer.skip_layout") 433, Value.str (Str.ofString "/claim/cut.py") 434, Value.int 146 0, Value.int 1 0, Value.int 0 0, Value.int 0 0, Value.int 3 0, Value.ref 172, Value.bool Bool.true, Value.int 181 0, Value.ref 173, Value.none, Value.ref 174, Value.ref 175, Value.ref 176, Value.int 437 0, Value.int 146 0, Value.str (Str.ofString "/claim/cut.py") 438]) #[]),
  (178, Obj.mk (Value.type "function") Option.none (Data.func f_Tokenizer_skip_layout) #[]),
  (184, Obj.mk (Value.type "code") Option.none (Data.fields #[Value.str (Str.ofString "skip_row") 440, Value.str (Str.ofString "Tokenizer.skip_row") 441, Value.str (Str.ofString "/claim/cut.py") 442, Value.int 158 0, Value.int 1 0, Value.int 0 0, Value.int 0 0, Value.int 3 0, Value.ref 179, Value.bool Bool.true, Value.int 181 0, Value.ref 180, Value.none, Value.ref 181, Value.ref 182, Value.ref 183, Value.int 445 0, Value.int 158 0, Value.str (Str.ofString "/claim/cut.py") 446]) #[]),
  (185, Obj.mk (Value.type "function") Option.none (Data.func f_Tokenizer_skip_row) #[]),
  (191, Obj.mk (Value.type "code") Option.none (Data.fields #[Value.str (Str.ofString "skip_remark") 448, Value.str (Str.ofString "Tokenizer.skip_remark") 449, Value.str (Str.ofString "/claim/cut.py") 450, Value.int 165 0, Value.int 1 0, Value.int 0 0, Value.int 0 0, Value.int 3 0, Value.ref 186, Value.bool Bool.true, Value.int 181 0, Value.ref 187, Value.none, Value.ref 188, Value.ref 189, Value.ref 190, Value.int 454 0, Value.int 165 0, Value.str (Str.ofString "/claim/cut.py") 455]) #[]),
  (192, Obj.mk (Value.type "function") Option.none (Data.func f_Tokenizer_skip_remark) #[]),
  (198, Obj.mk (Value.type "code") Option.none (Data.fields #[Value.str (Str.ofString "word") 457, Value.str (Str.ofString "Tokenizer.word") 458, Value.str (Str.ofString "/claim/cut.py") 459, Value.int 177 0, Value.int 2 0, Value.int 0 0, Value.int 0 0, Value.int 3 0, Value.ref 193, Value.bool Bool.true, Value.int 181 0, Value.ref 194, Value.none, Value.ref 195, Value.ref 196, Value.ref 197, Value.int 463 0, Value.int 177 0, Value.str (Str.ofString "/claim/cut.py") 464]) #[]),
  (199, Obj.mk (Value.type "function") Option.none (Data.func f_Tokenizer_word) #[]),
  (205, Obj.mk (Value.type "code") Option.none (Data.fields #[Value.str (Str.ofString "symbol") 466, Value.str (Str.ofString "Tokenizer.symbol") 467, Value.str (Str.ofString "/claim/cut.py") 468, Value.int 184 0, Value.int 2 0, Value.int 0 0, Value.int 0 0, Value.int 3 0, Value.ref 200, Value.bool Bool.true, Value.int 181 0, Value.ref 201, Value.none, Value.ref 202, Value.ref 203, Value.ref 204, Value.int 472 0, Value.int 184 0, Value.str (Str.ofString "/claim/cut.py") 473]) #[]),
  (206, Obj.mk (Value.type "function") Option.none (Data.func f_Tokenizer_symbol) #[]),
  (212, Obj.mk (Value.type "code") Option.none (Data.fields #[Value.str (Str.ofString "ends_at") 475, Value.str (Str.ofString "Tokenizer.ends_at") 476, Value.str (Str.ofString "/claim/cut.py") 477, Value.int 194 0, Value.int 2 0, Value.int 0 0, Value.int 0 0, Value.int 3 0, Value.ref 207, Value.bool Bool.true, Value.int 181 0, Value.ref 208, Value.none, Value.ref 209, Value.ref 210, Value.ref 211, Value.int 481 0, Value.int 194 0, Value.str (Str.ofString "/claim/cut.py") 482]) #[]),
  (213, Obj.mk (Value.type "function") Option.none (Data.func f_Tokenizer_ends_at) #[]),
  (219, Obj.mk (Value.type "code") Option.none (Data.fields #[Value.str (Str.ofString "numeral") 484, Value.str (Str.ofString "Tokenizer.numeral") 485, Value.str (Str.ofString "/claim/cut.py") 486, Value.int 198 0, Value.int 2 0, Value.int 0 0, Value.int 0 0, Value.int 3 0, Value.ref 214, Value.bool Bool.true, Value.int 181 0, Value.ref 215, Value.none, Value.ref 216, Value.ref 217, Value.ref 218, Value.int 493 0, Value.int 198 0, Value.str (Str.ofString "/claim/cut.py") 494]) #[]),
  (220, Obj.mk (Value.type "function") Option.none (Data.func f_Tokenizer_numeral) #[]),
  (226, Obj.mk (Value.type "code") Option.none (Data.fields #[Value.str (Str.ofString "digits") 496, Value.str (Str.ofString "Tokenizer.digits") 497, Value.str (Str.ofString "/claim/cut.py") 498, Value.int 213 0, Value.int 3 0, Value.int 0 0, Value.int 0 0, Value.int 3 0, Value.ref 221, Value.bool Bool.true, Value.int 181 0, Value.ref 222, Value.none, Value.ref 223, Value.ref 224, Value.ref 225, Value.int 504 0, Value.int 213 0, Value.str (Str.ofString "/claim/cut.py") 505]) #[]),
  (227, Obj.mk (Value.type "function") Option.none (Data.func f_Tokenizer_digits) #[]),
  (233, Obj.mk (Value.type "code") Option.none (Data.fields #[Value.str (Str.ofString "character") 507, Value.str (Str.ofString "Tokenizer.character") 508, Value.str (Str.ofString "/claim/cut.py") 509, Value.int 223 0, Value.int 2 0, Value.int 0 0, Value.int 0 0, Value.int 3 0, Value.ref 228, Value.bool Bool.true, Value.int 181 0, Value.ref 229, Value.none, Value.ref 230, Value.ref 231, Value.ref 232, Value.int 514 0, Value.int 223 0, Value.str (Str.ofString "/claim/cut.py") 515]) #[]),
  (234, Obj.mk (Value.type "function") Option.none (Data.func f_Tokenizer_character) #[]),
  (240, Obj.mk (Value.type "code") Option.none (Data.fields #[Value.str (Str.ofString "quoted") 517, Value.str (Str.ofString "Tokenizer.quoted") 518, Value.str (Str.ofString "/claim/cut.py") 519, Value.int 244 0, Value.int 3 0, Value.int 0 0, Value.int 0 0, Value.int 3 0, Value.ref 235, Value.bool Bool.true, Value.int 181 0, Value.ref 236, Value.none, Value.ref 237, Value.ref 238, Value.ref 239, Value.int 527 0, Value.int 244 0, Value.str (Str.ofString "/claim/cut.py") 528]) #[]),
  (241, Obj.mk (Value.type "function") Option.none (Data.func f_Tokenizer_quoted) #[]),
  (247, Obj.mk (Value.type "code") Option.none (Data.fields #[Value.str (Str.ofString "escape") 530, Value.str (Str.ofString "Tokenizer.escape") 531, Value.str (Str.ofString "/claim/cut.py") 532, Value.int 273 0, Value.int 1 0, Value.int 0 0, Value.int 0 0, Value.int 3 0, Value.ref 242, Value.bool Bool.true, Value.int 181 0, Value.ref 243, Value.none, Value.ref 244, Value.ref 245, Value.ref 246, Value.int 541 0, Value.int 273 0, Value.str (Str.ofString "/claim/cut.py") 542]) #[]),
  (248, Obj.mk (Value.type "function") Option.none (Data.func f_Tokenizer_escape) #[]),
  (254, Obj.mk (Value.type "code") Option.none (Data.fields #[Value.str (Str.ofString "abandon") 544, Value.str (Str.ofString "Tokenizer.abandon") 545, Value.str (Str.ofString "/claim/cut.py") 546, Value.int 298 0, Value.int 2 0, Value.int 0 0, Value.int 0 0, Value.int 3 0, Value.ref 249, Value.bool Bool.true, Value.int 181 0, Value.ref 250, Value.none, Value.ref 251, Value.ref 252, Value.ref 253, Value.int 551 0, Value.int 298 0, Value.str (Str.ofString "/claim/cut.py") 552]) #[]),
  (255, Obj.mk (Value.type "function") Option.none (Data.func f_Tokenizer_abandon) #[]),
  (257, Obj.mk (Value.type "dict") Option.none (Data.dict #[DictEntry.mk (PySem.PyData.keyHash P (Str.ofString "__module__")) (Value.str (Str.ofString "__module__") 367) (Value.str (Str.ofString "clausemill.tokens") 306), DictEntry.mk (PySem.PyData.keyHash P (Str.ofString "__firstlineno__")) (Value.str (Str.ofString "__firstlineno__") 371) (Value.int 71 370), DictEntry.mk (PySem.PyData.keyHash P (Str.ofString "__init__")) (Value.str (Str.ofString "__init__") 381) (Value.ref 136), DictEntry.mk (PySem.PyData.keyHash P (Str.ofString "code_at")) (Value.str (Str.ofString "code_at") 390) (Value.ref 143), DictEntry.mk (PySem.PyData.keyHash P (Str.ofString "place")) (Value.str (Str.ofString "place") 401) (Value.ref 150), DictEntry.mk (PySem.PyData.keyHash P (Str.ofString "fault")) (Value.str (Str.ofString "fault") 412) (Value.ref 157), DictEntry.mk (PySem.PyData.keyHash P (Str.ofString "next")) (Value.str (Str.ofString "next") 423) (Value.ref 164), DictEntry.mk (PySem.PyData.keyHash P (Str.ofString "skip_clause")) (Value.str (Str.ofString "skip_clause") 431) (Value.ref 171), DictEntry.mk (PySem.PyData.keyHash P (Str.ofString "skip_layout")) (Value.str (Str.ofString "skip_layout") 439) (Value.ref 178), DictEntry.mk (PySem.PyData.keyHash P (Str.ofString "skip_row")) (Value.str (Str.ofString "skip_row") 447) (Value.ref 185), DictEntry.mk (PySem.PyData.keyHash P (Str.ofString "skip_remark")) (Value.str (Str.ofString "skip_remark") 456) (Value.ref 192), DictEntry.mk (PySem.PyData.keyHash P (Str.ofString "word")) (Value.str (Str.ofString "word") 465) (Value.ref 199), DictEntry.mk (PySem.PyData.keyHash P (Str.ofString "symbol")) (Value.str (Str.ofString "symbol") 474) (Value.ref 206), DictEntry.mk (PySem.PyData.keyHash P (Str.ofString "ends_at")) (Value.str (Str.ofString "ends_at") 483) (Value.ref 213), DictEntry.mk (PySem.PyData.keyHash P (Str.ofString "numeral")) (Value.str (Str.ofString "numeral") 495) (Value.ref 220), DictEntry.mk (PySem.PyData.keyHash P (Str.ofString "digits")) (Value.str (Str.ofString "digits") 506) (Value.ref 227), DictEntry.mk (PySem.PyData.keyHash P (Str.ofString "character")) (Value.str (Str.ofString "character") 516) (Value.ref 234), DictEntry.mk (PySem.PyData.keyHash P (Str.ofString "quoted")) (Value.str (Str.ofString "quoted") 529) (Value.ref 241), DictEntry.mk (PySem.PyData.keyHash P (Str.ofString "escape")) (Value.str (Str.ofString "escape") 543) (Value.ref 248), DictEntry.mk (PySem.PyData.keyHash P (Str.ofString "abandon")) (Value.str (Str.ofString "abandon") 553) (Value.ref 255), DictEntry.mk (PySem.PyData.keyHash P (Str.ofString "__static_attributes__")) (Value.str (Str.ofString "__static_attributes__") 557) (Value.ref 256), DictEntry.mk (PySem.PyData.keyHash P (Str.ofString "__dict__")) (Value.str (Str.ofString "__dict__") 559) (Value.ref 259), DictEntry.mk (PySem.PyData.keyHash P (Str.ofString "__weakref__")) (Value.str (Str.ofString "__weakref__") 561) (Value.ref 260), DictEntry.mk (PySem.PyData.keyHash P (Str.ofString "__doc__")) (Value.str (Str.ofString "__doc__") 562) Value.none] 4) #[]),
  (258, Obj.mk (Value.type "type") Option.none (Data.cls (PySem.ClassData.mk (Str.ofString "Tokenizer") [Value.type "object"] [Value.ref 258, Value.type "object"] 257 (Str.ofString "Tokenizer") Bool.true [] [] Bool.false Option.none Bool.false)) #[Option.none, Option.none, Option.some (Value.str (Str.ofString "Tokenizer") 360), Option.some (Value.str (Str.ofString "Tokenizer") 368), Option.some (Value.builtin "object.__new__"), Option.some (Value.bool Bool.true)]),
  (259, Obj.mk (Value.type "getset_descriptor") Option.none (Data.fields #[Value.str (Str.ofString "__dict__") 558, Value.ref 258, Value.builtin "function.__dict__", Value.builtin "function.__dict__#set"]) #[]),
  (260, Obj.mk (Value.type "getset_descriptor") Option.none (Data.fields #[Value.str (Str.ofString "__weakref__") 560, Value.ref 258, Value.builtin "ExceptionGroup.__weakref__", Value.none]) #[]),
  (268, Obj.mk (Value.type "code") Option.none (Data.fields #[Value.str (Str.ofString "_law_pool") 567, Value.str (Str.ofString "_law_pool") 568, Value.str (Str.ofString "/claim/cut.py") 569, Value.int 314 0, Value.int 1 0, Value.int 0 0, Value.int 0 0, Value.int 3 0, Value.ref 263, Value.bool Bool.true, Value.int 181 0, Value.ref 264, Value.none, Value.ref 265, Value.ref 266, Value.ref 267, Value.int 577 0, Value.int 314 0, Value.str (Str.ofString "/claim/cut.py") 578]) #[]),
  (269, Obj.mk (Value.type "function") Option.none (Data.func f_law_pool) #[]),
  (275, Obj.mk (Value.type "code") Option.none (Data.fields #[Value.str (Str.ofString "_law_pick") 580, Value.str (Str.ofString "_law_pick") 581, Value.str (Str.ofString "/claim/cut.py") 582, Value.int 329 0, Value.int 2 0, Value.int 0 0, Value.int 0 0, Value.int 3 0, Value.ref 270, Value.bool Bool.true, Value.int 181 0, Value.ref 271, Value.none, Value.ref 272, Value.ref 273, Value.ref 274, Value.int 586 0, Value.int 329 0, Value.str (Str.ofString "/claim/cut.py") 587]) #[]),
  (276, Obj.mk (Value.type "function") Option.none (Data.func f_law_pick) #[]),
  (280, Obj.mk (Value.type "code") Option.none (Data.fields #[Value.str (Str.ofString "_law_ords") 589, Value.str (Str.ofString "_law_ords") 590, Value.str (Str.ofString "/claim/cut.py") 591, Value.int 339 0, Value.int 1 0, Value.int 0 0, Value.int 0 0, Value.int 3 0, Value.ref 277, Value.bool Bool.true, Value.int 181 0, Value.ref 278, Value.none, Value.none, Value.none, Value.ref 279, Value.int 592 0, Value.int 339 0, Value.str (Str.ofString "/claim/cut.py") 593]) #[]),
  (281, Obj.mk (Value.type "function") Option.none (Data.func f_law_ords) #[]),
  (287, Obj.mk (Value.type "code") Option.none (Data.fields #[Value.str (Str.ofString "_law_figures") 595, Value.str (Str.ofString "_law_figures") 596, Value.str (Str.ofString "/claim/cut.py") 597, Value.int 341 0, Value.int 3 0, Value.int 0 0, Value.int 0 0, Value.int 3 0, Value.ref 282, Value.bool Bool.true, Value.int 181 0, Value.ref 283, Value.none, Value.ref 284, Value.ref 285, Value.ref 286, Value.int 603 0, Value.int 341 0, Value.str (Str.ofString "/claim/cut.py") 604]) #[]),
  (288, Obj.mk (Value.type "function") Option.none (Data.func f_law_figures) #[]),
  (294, Obj.mk (Value.type "code") Option.none (Data.fields #[Value.str (Str.ofString "_law_code") 606, Value.str (Str.ofString "_law_code") 607, Value.str (Str.ofString "/claim/cut.py") 608, Value.int 351 0, Value.int 1 0, Value.int 0 0, Value.int 0 0, Value.int 3 0, Value.ref 289, Value.bool Bool.true, Value.int 181 0, Value.ref 290, Value.none, Value.ref 291, Value.ref 292, Value.ref 293, Value.int 612 0, Value.int 351 0, Value.str (Str.ofString "/claim/cut.py") 613]) #[]),
  (295, Obj.mk (Value.type "function") Option.none (Data.func f_law_code) #[]),
  (301, Obj.mk (Value.type "code") Option.none (Data.fields #[Value.str (Str.ofString "_law_plain") 615, Value.str (Str.ofString "_law_plain") 616, Value.str (Str.ofString "/claim/cut.py") 617, Value.int 359 0, Value.int 2 0, Value.int 0 0, Value.int 0 0, Value.int 3 0, Value.ref 296, Value.bool Bool.true, Value.int 181 0, Value.ref 297, Value.none, Value.ref 298, Value.ref 299, Value.ref 300, Value.int 621 0, Value.int 359 0, Value.str (Str.ofString "/claim/cut.py") 622]) #[]),
  (302, Obj.mk (Value.type "function") Option.none (Data.func f_law_plain) #[]),
  (308, Obj.mk (Value.type "code") Option.none (Data.fields #[Value.str (Str.ofString "_law_escape") 624, Value.str (Str.ofString "_law_escape") 625, Value.str (Str.ofString "/claim/cut.py") 626, Value.int 364 0, Value.int 2 0, Value.int 0 0, Value.int 0 0, Value.int 3 0, Value.ref 303, Value.bool Bool.true, Value.int 181 0, Value.ref 304, Value.none, Value.ref 305, Value.ref 306, Value.ref 307, Value.int 632 0, Value.int 364 0, Value.str (Str.ofString "/claim/cut.py") 633]) #[]),
  (309, Obj.mk (Value.type "function") Option.none (Data.func f_law_escape) #[]),
  (315, Obj.mk (Value.type "code") Option.none (Data.fields #[Value.str (Str.ofString "_law_quoted") 635, Value.str (Str.ofString "_law_quoted") 636, Value.str (Str.ofString "/claim/cut.py") 637, Value.int 373 0, Value.int 2 0, Value.int 0 0, Value.int 0 0, Value.int 3 0, Value.ref 310, Value.bool Bool.true, Value.int 181 0, Value.ref 311, Value.none, Value.ref 312, Value.ref 313, Value.ref 314, Value.int 646 0, Value.int 373 0, Value.str (Str.ofString "/claim/cut.py") 647]) #[]),
  (316, Obj.mk (Value.type "function") Option.none (Data.func f_law_quoted) #[]),
  (322, Obj.mk (Value.type "code") Option.none (Data.fields #[Value.str (Str.ofString "_law_word") 649, Value.str (Str.ofString "_law_word") 650, Value.str (Str.ofString "/claim/cut.py") 651, Value.int 392 0, Value.int 2 0, Value.int 0 0, Value.int 0 0, Value.int 3 0, Value.ref 317, Value.bool Bool.true, Value.int 181 0, Value.ref 318, Value.none, Value.ref 319, Value.ref 320, Value.ref 321, Value.int 656 0, Value.int 392 0, Value.str (Str.ofString "/claim/cut.py") 657]) #[]),
  (323, Obj.mk (Value.type "function") Option.none (Data.func f_law_word) #[]),
  (329, Obj.mk (Value.type "code") Option.none (Data.fields #[Value.str (Str.ofString "_law_number") 659, Value.str (Str.ofString "_law_number") 660, Value.str (Str.ofString "/claim/cut.py") 661, Value.int 397 0, Value.int 2 0, Value.int 0 0, Value.int 0 0, Value.int 3 0, Value.ref 324, Value.bool Bool.true, Value.int 181 0, Value.ref 325, Value.none, Value.ref 326, Value.ref 327, Value.ref 328, Value.int 669 0, Value.int 397 0, Value.str (Str.ofString "/claim/cut.py") 670]) #[]),
  (330, Obj.mk (Value.type "function") Option.none (Data.func f_law_number) #[]),
  (334, Obj.mk (Value.type "code") Option.none (Data.fields #[Value.str (Str.ofString "_law_token") 672, Value.str (Str.ofString "_law_token") 673, Value.str (Str.ofString "/claim/cut.py") 674, Value.int 418 0, Value.int 2 0, Value.int 0 0, Value.int 0 0, Value.int 3 0, Value.ref 331, Value.bool Bool.true, Value.int 181 0, Value.ref 332, Value.none, Value.none, Value.none, Value.ref 333, Value.int 675 0, Value.int 418 0, Value.str (Str.ofString "/claim/cut.py") 676]) #[]),
  (335, Obj.mk (Value.type "function") Option.none (Data.func f_law_token) #[]),
  (341, Obj.mk (Value.type "code") Option.none (Data.fields #[Value.str (Str.ofString "_law_gap") 678, Value.str (Str.ofString "_law_gap") 679, Value.str (Str.ofString "/claim/cut.py") 680, Value.int 455 0, Value.int 3 0, Value.int 0 0, Value.int 0 0, Value.int 3 0, Value.ref 336, Value.bool Bool.true, Value.int 181 0, Value.ref 337, Value.none, Value.ref 338, Value.ref 339, Value.ref 340, Value.int 689 0, Value.int 455 0, Value.str (Str.ofString "/claim/cut.py") 690]) #[]),
  (342, Obj.mk (Value.type "function") Option.none (Data.func f_law_gap) #[]),
  (348, Obj.mk (Value.type "code") Option.none (Data.fields #[Value.str (Str.ofString "_law_place") 692, Value.str (Str.ofString "_law_place") 693, Value.str (Str.ofString "/claim/cut.py") 694, Value.int 476 0, Value.int 2 0, Value.int 0 0, Value.int 0 0, Value.int 3 0, Value.ref 343, Value.bool Bool.true, Value.int 181 0, Value.ref 344, Value.none, Value.ref 345, Value.ref 346, Value.ref 347, Value.int 700 0, Value.int 476 0, Value.str (Str.ofString "/claim/cut.py") 701]) #[]),
  (349, Obj.mk (Value.type "function") Option.none (Data.func f_law_place) #[]),
  (355, Obj.mk (Value.type "code") Option.none (Data.fields #[Value.str (Str.ofString "_law_faults") 703, Value.str (Str.ofString "_law_faults") 704, Value.str (Str.ofString "/claim/cut.py") 705, Value.int 484 0, Value.int 1 0, Value.int 0 0, Value.int 0 0, Value.int 3 0, Value.ref 350, Value.bool Bool.true, Value.int 181 0, Value.ref 351, Value.none, Value.ref 352, Value.ref 353, Value.ref 354, Value.int 708 0, Value.int 484 0, Value.str (Str.ofString "/claim/cut.py") 709]) #[]),
  (356, Obj.mk (Value.type "function") Option.none (Data.func f_law_faults) #[]),
  (360, Obj.mk (Value.type "code") Option.none (Data.fields #[Value.str (Str.ofString "law") 711, Value.str (Str.ofString "law") 712, Value.str (Str.ofString "/claim/cut.py") 713, Value.int 487 0, Value.int 1 0, Value.int 0 0, Value.int 0 0, Value.int 3 0, Value.ref 357, Value.bool Bool.true, Value.int 181 0, Value.ref 358, Value.none, Value.none, Value.none, Value.ref 359, Value.int 714 0, Value.int 487 0, Value.str (Str.ofString "/claim/cut.py") 715]) #[]),
  (361, Obj.mk (Value.type "function") Option.none (Data.func f_law) #[])]
noncomputable def KA : List Addr := [3, 23, 24, 25, 40, 41, 43, 44, 52, 53, 59, 60, 66, 67, 73, 74, 80, 81, 87, 88, 94, 95, 101, 102, 106, 107, 113, 114, 120, 121, 129, 135, 136, 142, 143, 149, 150, 156, 157, 163, 164, 170, 171, 177, 178, 184, 185, 191, 192, 198, 199, 205, 206, 212, 213, 219, 220, 226, 227, 233, 234, 240, 241, 247, 248, 254, 255, 257, 258, 259, 260, 268, 269, 275, 276, 280, 281, 287, 288, 294, 295, 301, 302, 308, 309, 315, 316, 322, 323, 329, 330, 334, 335, 341, 342, 348, 349, 355, 356, 360, 361]
end Mine
end

-- HeadK
section
open PySem PySem.W PyProof.Rows
set_option maxRecDepth 100000
namespace Mine
theorem kfa (P : Params) : KA = (KF P).map (·.1) := by kernel_rfl
noncomputable abbrev kH : Hook := kHook KF KA kfa
noncomputable def isModName : Stmt → Bool
  | .Assign [.Name x _] _ _ => x == ("__name__" : Str)
  | _ => false
/-- the text without its four rows that turn the module's name -/
noncomputable def qK : Program := { PySem.Challenge.pw_no0167_01 with main := { PySem.Challenge.pw_no0167_01.main with body := PySem.Challenge.pw_no0167_01.main.body.filter fun s => !isModName s } }
theorem qK_len : qK.main.body.length = 47 := by decide +kernel
abbrev rK : OpenRow := PySem.Challenge.rw_no0167_01.row
noncomputable abbrev xK (s : Shared) : Bool := xlAt qK [] s && recOk (RowW.records rK.toRowW) s
set_option maxHeartbeats 0 in
theorem leftK : LeftO rK.prog qK [] xK (Hook.obs kH) (Hook.val kH) 4634 := fun w => by kernel_rfl
end Mine
end

-- HeadL
section
open PySem PySem.W PyProof.Rows
set_option maxRecDepth 100000
namespace Mine
/-- the law's walk, whatever the head writes down of the top -/
noncomputable def WalkAll : Prop := ∀ (q : Program) (loose : List Str) (XP : (Str → Option Value) → Heap → Prop) (d : DefRec) (kwd : List (Str × Expr)), d.name = "law" → WalkO q loose XP (kHook KF KA kfa).says rK.toRowW d kwd fun f vs => call f vs
theorem defK_some : (defOf qK rK.name).isSome = true := by decide +kernel
noncomputable def dK : DefRec × List (Str × Expr) := (defOf qK rK.name).get defK_some
theorem hdefK : defOf qK rK.name = some (dK.1, dK.2) := (Option.some_get defK_some).symm
theorem hnameK : dK.1.name = "law" := by kernel_rfl
theorem hpK : rK.prog.theDef rK.name = some (dK.1.params, dK.1.body, dK.1.scope) := by kernel_rfl
theorem hkK : kwWritten? dK.1.params.kwonlyargs dK.1.params.kw_defaults = some dK.2 := by kernel_rfl

theorem okK : (chainsOk qK && opensWell rK.prog && (frees rK.toRowW && rK.within.isEmpty)) = true := by kernel_rfl
theorem bareK : rK.prog.bare := ⟨rfl, rfl, rfl, rfl, rfl, by decide +kernel⟩

theorem headK (said : rK.wellSaid = true) (hw : rK.toRowW.promised) (h : WalkAll) : rK.Holds :=
  holds_open (q := qK) (loose := []) (Xt := xK) (XP := XL qK []) (Yf := Hook.obs kH) (Ya := Hook.val kH) (YP := Hook.says kH) (N := 4634) leftK (Hook.of kH) (Hook.keeps kH)
    (fun s e => xl_of s (Bool.and_eq_true_iff.mp e).1) XL.keeps hdefK hpK hkK (fun s e => recFacts_of (Bool.and_eq_true_iff.mp e).2) rfl said okK bareK hw (h _ _ _ _ _ hnameK)
theorem saidK : PySem.Challenge.rw_no0167_01.wellSaid = true := by kernel_rfl
set_option maxHeartbeats 0 in
theorem promK : rK.toRowW.promised := by w_witness2
theorem topX (h : WalkAll) : PySem.Challenge.rw_no0167_01.Holds := holds_law saidK fun said => headK said promK h
end Mine
end

-- E0
section
open PySem PySem.W PyProof.Rows
namespace Mine

/-- abstract values -/
inductive AV where
  | non
  | bool (b : Bool)
  | int (i : Int)
  | str (s : Str)
  | tup (xs : List AV)
  | lst (xs : List AV)
  | ref (k : Nat)
  | ins (k : Nat)
  | flt (kind : Str) (at_ row col : Int)
  deriving Inhabited

/-- attribute names -/
inductive Fld where
  | codes | at | origin | kind | row | column
  deriving DecidableEq

noncomputable def Fld.name : Fld → Str
  | .codes => "codes"
  | .at => "at"
  | .origin => "origin"
  | .kind => "kind"
  | .row => "row"
  | .column => "column"

theorem Fld.isStr (f f' : Fld) (t : Tok) : (Value.str f.name t).isStr f'.name = decide (f = f') := by
  show (f.name == f'.name) = _
  cases f <;> cases f' <;> decide +kernel

/-- mutable cells -/
inductive Cell where
  | unborn
  | dead
  | lst (xs : List AV)
  | dct (fs : List (Fld × AV))
  deriving Inhabited

/-- the ghost: what is frozen (z), what is kept up to slots (K), where the cells lie (ad) -/
structure Gh where
  z : Addr → Option Obj
  K : Addr → Option Obj
  ad : Nat → Option Addr

noncomputable def tokC : Addr := 258
noncomputable def fltC : Addr := 44

noncomputable def FltDict (es : List DictEntry) (kind : Str) (at_ row col : Int) : Prop :=
  ∃ h1 h2 h3 h4 t1 t2 t3 t4 u1 u2 u3 u4, es = [⟨h1, .str Fld.kind.name t1, .str kind u1⟩, ⟨h2, .str Fld.at.name t2, .int at_ u2⟩, ⟨h3, .str Fld.row.name t3, .int row u3⟩, ⟨h4, .str Fld.column.name t4, .int col u4⟩]

/-- an exception object of the text's class lies at e -/
structure FltAt (z : Addr → Option Obj) (o : Obj) (kind : Str) (at_ row col : Int) : Prop where
  cls : o.cls = .ref fltC
  ex : ∃ d es n vs, o.dict = some d ∧ o.data = .fields vs ∧ z d = some (dictOf es n) ∧ FltDict es kind at_ row col

mutual
inductive RV (g : Gh) : Value → AV → Prop
  | non : RV g .none .non
  | bool (b : Bool) : RV g (.bool b) (.bool b)
  | int (i : Int) (t : Tok) : RV g (.int i t) (.int i)
  | str (s : Str) (t : Tok) : RV g (.str s t) (.str s)
  | tup {a : Addr} {vs : List Value} {n : Nat} {xs : List AV} : g.z a = some { cls := .type "tuple", data := .seq vs.toArray n } → RVs g vs xs → RV g (.ref a) (.tup xs)
  | lst {a : Addr} {vs : List Value} {n : Nat} {xs : List AV} : g.z a = some { cls := .type "list", data := .seq vs.toArray n } → RVs g vs xs → RV g (.ref a) (.lst xs)
  | ref {a : Addr} {k : Nat} : g.ad k = some a → RV g (.ref a) (.ref k)
  | ins {x d : Addr} {k : Nat} : g.ad k = some d → g.z x = some (instObj tokC d) → RV g (.ref x) (.ins k)
  | flt {e : Addr} {o : Obj} {kind : Str} {at_ row col : Int} : g.z e = some o → FltAt g.z o kind at_ row col → RV g (.ref e) (.flt kind at_ row col)
inductive RVs (g : Gh) : List Value → List AV → Prop
  | nil : RVs g [] []
  | cons {v : Value} {vs : List Value} {x : AV} {xs : List AV} : RV g v x → RVs g vs xs → RVs g (v :: vs) (x :: xs)
end

structure Gh.le (g g' : Gh) : Prop where
  z : ∀ a o, g.z a = some o → g'.z a = some o
  K : ∀ a o, g.K a = some o → g'.K a = some o
  ad : ∀ k a, g.ad k = some a → g'.ad k = some a
  new : ∀ a, g.z a = none → g.K a ≠ none → g'.z a = none

theorem Gh.le.refl (g : Gh) : g.le g := ⟨fun _ _ h => h, fun _ _ h => h, fun _ _ h => h, fun _ h _ => h⟩
theorem Gh.le.trans {g g' g'' : Gh} (x : g.le g') (y : g'.le g'') : g.le g'' :=
  ⟨fun a o h => y.z a o (x.z a o h), fun a o h => y.K a o (x.K a o h), fun k a h => y.ad k a (x.ad k a h),
   fun a h1 h2 => y.new a (x.new a h1 h2) (by
     cases hk : g.K a with
     | none => exact absurd hk h2
     | some o => rw [x.K a o hk]; exact Option.some_ne_none _)⟩

theorem FltAt.mono {z z' : Addr → Option Obj} (hz : ∀ a o, z a = some o → z' a = some o) {o : Obj} {k : Str} {a r c : Int} (x : FltAt z o k a r c) : FltAt z' o k a r c :=
  let ⟨d, es, n, vs, h1, h2, h3, h4⟩ := x.ex
  ⟨x.cls, d, es, n, vs, h1, h2, hz _ _ h3, h4⟩

theorem RV.mono {g g' : Gh} (hz : ∀ a o, g.z a = some o → g'.z a = some o) (ha : ∀ k a, g.ad k = some a → g'.ad k = some a) {v : Value} {x : AV} (r : RV g v x) : RV g' v x :=
  RV.rec (motive_1 := fun v x _ => RV g' v x) (motive_2 := fun vs xs _ => RVs g' vs xs) .non (fun b => .bool b) (fun i t => .int i t) (fun s t => .str s t) (fun h1 _ ih => .tup (hz _ _ h1) ih) (fun h1 _ ih => .lst (hz _ _ h1) ih) (fun h => .ref (ha _ _ h)) (fun h1 h2 => .ins (ha _ _ h1) (hz _ _ h2)) (fun h1 h2 => .flt (hz _ _ h1) (h2.mono hz)) .nil (fun _ _ i1 i2 => .cons i1 i2) r
theorem RVs.mono {g g' : Gh} (hz : ∀ a o, g.z a = some o → g'.z a = some o) (ha : ∀ k a, g.ad k = some a → g'.ad k = some a) {vs : List Value} {xs : List AV} (r : RVs g vs xs) : RVs g' vs xs :=
  RVs.rec (motive_1 := fun v x _ => RV g' v x) (motive_2 := fun vs xs _ => RVs g' vs xs) .non (fun b => .bool b) (fun i t => .int i t) (fun s t => .str s t) (fun h1 _ ih => .tup (hz _ _ h1) ih) (fun h1 _ ih => .lst (hz _ _ h1) ih) (fun h => .ref (ha _ _ h)) (fun h1 h2 => .ins (ha _ _ h1) (hz _ _ h2)) (fun h1 h2 => .flt (hz _ _ h1) (h2.mono hz)) .nil (fun _ _ i1 i2 => .cons i1 i2) r
theorem RV.le {g g' : Gh} (h : g.le g') {v : Value} {x : AV} (r : RV g v x) : RV g' v x := r.mono h.z h.ad
theorem RVs.le {g g' : Gh} (h : g.le g') {v : List Value} {x : List AV} (r : RVs g v x) : RVs g' v x := r.mono h.z h.ad

theorem RVs.ind {g : Gh} {M : List Value → List AV → Prop} (h0 : M [] []) (h1 : ∀ {v vs x xs}, RV g v x → RVs g vs xs → M vs xs → M (v :: vs) (x :: xs)) {vs : List Value} {xs : List AV} (r : RVs g vs xs) : M vs xs :=
  RVs.rec (motive_1 := fun _ _ _ => True) (motive_2 := fun vs xs _ => M vs xs) trivial (fun _ => trivial) (fun _ _ => trivial) (fun _ _ => trivial) (fun _ _ _ => trivial) (fun _ _ _ => trivial) (fun _ => trivial) (fun _ _ => trivial) (fun _ _ => trivial) h0 (fun a b _ ih => h1 a b ih) r
theorem RVs.length {g : Gh} {vs : List Value} {xs : List AV} (r : RVs g vs xs) : vs.length = xs.length := r.ind (M := fun vs xs => vs.length = xs.length) rfl fun _ _ ih => congrArg (· + 1) ih
theorem RVs.append {g : Gh} {vs vs' : List Value} {xs xs' : List AV} (r : RVs g vs xs) (h : RVs g vs' xs') : RVs g (vs ++ vs') (xs ++ xs') := r.ind (M := fun vs xs => RVs g (vs ++ vs') (xs ++ xs')) h fun a _ ih => .cons a ih
theorem RVs.get {g : Gh} {vs : List Value} {xs : List AV} (r : RVs g vs xs) : ∀ {i : Nat} {x : AV}, xs[i]? = some x → ∃ v, vs[i]? = some v ∧ RV g v x :=
  r.ind (M := fun vs xs => ∀ {i : Nat} {x : AV}, xs[i]? = some x → ∃ v, vs[i]? = some v ∧ RV g v x) (fun e => by cases e) fun a _ ih => by
    intro i x e
    cases i with
    | zero => cases e; exact ⟨_, rfl, a⟩
    | succ i => exact ih (i := i) e
theorem RVs.take {g : Gh} {vs : List Value} {xs : List AV} (r : RVs g vs xs) : ∀ (n : Nat), RVs g (vs.take n) (xs.take n) :=
  r.ind (M := fun vs xs => ∀ (n : Nat), RVs g (vs.take n) (xs.take n)) (fun n => by rw [List.take_nil, List.take_nil]; exact .nil) fun a _ ih n => by
    cases n with
    | zero => exact .nil
    | succ n => exact .cons a (ih n)
theorem RVs.drop {g : Gh} {vs : List Value} {xs : List AV} (r : RVs g vs xs) : ∀ (n : Nat), RVs g (vs.drop n) (xs.drop n) :=
  r.ind (M := fun vs xs => ∀ (n : Nat), RVs g (vs.drop n) (xs.drop n)) (fun n => by rw [List.drop_nil, List.drop_nil]; exact .nil) fun a b ih n => by
    cases n with
    | zero => exact .cons a b
    | succ n => exact ih n
theorem RVs.reverse {g : Gh} {vs : List Value} {xs : List AV} (r : RVs g vs xs) : RVs g vs.reverse xs.reverse :=
  r.ind (M := fun vs xs => RVs g vs.reverse xs.reverse) .nil fun a _ ih => by
    rw [List.reverse_cons, List.reverse_cons]; exact ih.append (.cons a .nil)
theorem RVs.set {g : Gh} {vs : List Value} {xs : List AV} (r : RVs g vs xs) : ∀ (i : Nat) {v : Value} {x : AV}, RV g v x → RVs g (vs.set i v) (xs.set i x) :=
  r.ind (M := fun vs xs => ∀ (i : Nat) {v : Value} {x : AV}, RV g v x → RVs g (vs.set i v) (xs.set i x)) (fun _ _ _ _ => .nil) fun a b ih i _ _ h => by
    cases i with
    | zero => exact .cons h b
    | succ i => exact .cons a (ih i h)

noncomputable def DictRep (g : Gh) : List DictEntry → List (Fld × AV) → Prop
  | [], [] => True
  | e :: es, (f, a) :: fs => (∃ t, e.key = .str f.name t) ∧ RV g e.val a ∧ DictRep g es fs
  | _, _ => False

/-- the facts of the world behind the top -/
structure Wd where
  w : World
  b : Heap
  mg : Str → Option Value
  mb : Str → Option Value
  KI : (KF w.params).In b
  G : b.Ns mainGlobals mg
  B : b.Ns builtinsNs mb
  boot : ∀ x : Str, x ≠ "__name__" → mb x = bootBuiltins x
  lim : b.NoLimit

structure Cx where
  W : Wd
  n : Nat
  env : Env
  L : Addr
  names : List Str
  A : Around
  outer : List Env
  os : OsState

noncomputable abbrev Cx.M (c : Cx) : Model := model PySem.Challenge.pw_no0167_01 c.W.w

structure CxOk (c : Cx) : Prop where
  kind : c.env.scope.kind = .function
  loc : c.env.locals = c.L
  frm : c.env.frame = some c.L
  glob : c.env.globals = mainGlobals
  blt : c.env.builtins = builtinsNs
  fr : c.A.frames = some (c.env :: c.outer)
  depth : c.A.depth + 10 * c.n + 10 < recursionLimit
  units : c.A.units + 20 * c.n + 20 < cLine
  nodup : c.names.Nodup
  isLoc : ∀ x ∈ c.names, c.env.kindOf x = some .local ∧ (x == ("__debug__" : Str)) = false

structure AS where
  vars : List (Option AV)
  cells : List Cell

noncomputable def CellOk (g : Gh) (h : Heap) (a : Addr) : Cell → Prop
  | .unborn => True
  | .dead => True
  | .lst xs => ∃ vs n, IsL h a (List.toArray vs) n ∧ RVs g vs xs
  | .dct fs => ∃ es n, h.get? a = some (dictOf es n) ∧ DictRep g es fs

noncomputable def Cell.live : Cell → Bool
  | .lst _ | .dct _ => true
  | _ => false

/-- as it was, but that the slots of a frame may have turned (a frame that a traceback has seen) -/
noncomputable def Kp (fr : List Env) (a : Addr) (o o' : Obj) : Prop := o' = o ∨ ((∃ env ∈ fr, env.frame = some a) ∧ ∃ sl, o' = { o with slots := sl })

structure Inv (c : Cx) (g : Gh) (σ : AS) (s : Shared) : Prop where
  kept : ∀ a o, g.K a = some o → ∃ o', s.heap.get? a = some o' ∧ Kp c.outer a o o'
  zin : ∀ a o, g.z a = some o → s.heap.get? a = some o
  zK : ∀ a, g.K a = none → g.z a = none
  base : ∀ a o, c.W.b.get? a = some o → g.z a = some o
  loc : ∃ m, s.heap.Ns c.L m ∧ ∀ (i : Nat) (x : Str) (a : AV), c.names[i]? = some x → σ.vars[i]? = some (some a) → ∃ v, m x = some v ∧ RV g v a
  KL : g.K c.L = none
  cells : ∀ (k : Nat) (C : Cell), σ.cells[k]? = some C → C.live = true → ∃ a, g.ad k = some a ∧ g.K a = none ∧ a ≠ c.L ∧ CellOk g s.heap a C
  inj : ∀ (j k : Nat) (a : Addr) (Cj Ck : Cell), σ.cells[j]? = some Cj → Cj.live = true → σ.cells[k]? = some Ck → Ck.live = true → g.ad j = some a → g.ad k = some a → j = k
  adU : ∀ k, σ.cells[k]? = some .unborn → g.ad k = none
  adN : ∀ k, σ.cells.length ≤ k → g.ad k = none
  outer : ∀ env ∈ c.outer, env.scope.kind ≠ .module ∧ ∃ L' o, env.frame = some L' ∧ (g.z L' = none ∧ g.K L' ≠ none) ∧ s.heap.get? L' = some o ∧ ∀ vs, o.data ≠ .fields vs
  gens : s.gens = #[]
  os : s.os = c.os
  adAt : ∀ k a, g.ad k = some a → ∃ o, s.heap.get? a = some o
  adK : ∀ k a, g.ad k = some a → g.K a ≠ none → g.z a ≠ none

end Mine
end

-- E1
section
open PySem PySem.W PyProof.Rows
set_option linter.unusedVariables false
namespace Mine

theorem Kp.refl (fr : List Env) (a : Addr) (o : Obj) : Kp fr a o o := .inl rfl
theorem Kp.trans {fr : List Env} {a : Addr} {o o' o'' : Obj} (x : Kp fr a o o') (y : Kp fr a o' o'') : Kp fr a o o'' := by
  rcases x with rfl | ⟨hd, sl, rfl⟩
  · exact y
  · rcases y with rfl | ⟨_, sl', rfl⟩
    · exact .inr ⟨hd, sl, rfl⟩
    · exact .inr ⟨hd, sl', rfl⟩

theorem DictRep.mono {g g' : Gh} (hz : ∀ a o, g.z a = some o → g'.z a = some o) (ha : ∀ k a, g.ad k = some a → g'.ad k = some a) :
    ∀ {es : List DictEntry} {fs : List (Fld × AV)}, DictRep g es fs → DictRep g' es fs
  | [], [], _ => trivial
  | e :: es, (f, a) :: fs, ⟨h1, h2, h3⟩ => ⟨h1, h2.mono hz ha, h3.mono hz ha⟩
  | [], _ :: _, h => h.elim
  | _ :: _, [], h => h.elim

theorem CellOk.mono {g g' : Gh} (hz : ∀ a o, g.z a = some o → g'.z a = some o) (ha : ∀ k a, g.ad k = some a → g'.ad k = some a) {h h' : Heap} {a : Addr}
    (hh : ∀ o, h.get? a = some o → h'.get? a = some o) : ∀ {C : Cell}, CellOk g h a C → CellOk g' h' a C
  | .unborn, _ => trivial
  | .dead, _ => trivial
  | .lst _, ⟨vs, n, h1, h2⟩ => ⟨vs, n, hh _ h1, h2.mono hz ha⟩
  | .dct _, ⟨es, n, h1, h2⟩ => ⟨es, n, hh _ h1, h2.mono hz ha⟩

theorem CellOk.there {g : Gh} {h : Heap} {a : Addr} : ∀ {C : Cell}, C.live = true → CellOk g h a C → ∃ o, h.get? a = some o
  | .lst _, _, ⟨_, _, h1, _⟩ => ⟨_, h1⟩
  | .dct _, _, ⟨_, _, h1, _⟩ => ⟨_, h1⟩
  | .unborn, h, _ => nomatch h
  | .dead, h, _ => nomatch h

section
variable {c : Cx} {g : Gh} {σ : AS} {s : Shared}

theorem Inv.toks (I : Inv c g σ s) (t : Nat) : Inv c g σ { s with toks := t } :=
  ⟨I.kept, I.zin, I.zK, I.base, I.loc, I.KL, I.cells, I.inj, I.adU, I.adN, I.outer, I.gens, I.os, I.adAt, I.adK⟩

theorem Inv.grow (I : Inv c g σ s) {h' : Heap} (k : ∀ b o, s.heap.get? b = some o → h'.get? b = some o) (t : Nat) : Inv c g σ { s with heap := h', toks := t } where
  kept := fun a o e => let ⟨o', h1, h2⟩ := I.kept a o e; ⟨o', k _ _ h1, h2⟩
  zin := fun a o e => k _ _ (I.zin a o e)
  zK := I.zK
  base := I.base
  loc := let ⟨m, h1, h2⟩ := I.loc; ⟨m, h1.keeps k, h2⟩
  KL := I.KL
  cells := fun j C h1 h2 => let ⟨a, q1, q2, q3, q4⟩ := I.cells j C h1 h2; ⟨a, q1, q2, q3, q4.mono (fun _ _ e => e) (fun _ _ e => e) (fun o e => k _ _ e)⟩
  inj := I.inj
  adU := I.adU
  adN := I.adN
  outer := fun env he => let ⟨h1, L', o, h2, h3, h4, h5⟩ := I.outer env he; ⟨h1, L', o, h2, h3, k _ _ h4, h5⟩
  gens := I.gens
  os := I.os
  adAt := fun j a e => let ⟨o, h⟩ := I.adAt j a e; ⟨o, k _ _ h⟩
  adK := I.adK

theorem Inv.ltL (I : Inv c g σ s) : c.L < s.heap.objs.size := let ⟨m, h, _⟩ := I.loc; h.lt
theorem Inv.freshK (I : Inv c g σ s) : g.K s.heap.objs.size = none := by
  cases h : g.K s.heap.objs.size with
  | none => rfl
  | some o => obtain ⟨o', h1, _⟩ := I.kept _ _ h; exact absurd (Heap.lt_size h1) (Nat.lt_irrefl _)
theorem Inv.freshZ (I : Inv c g σ s) : g.z s.heap.objs.size = none := I.zK _ I.freshK
theorem Inv.ad_lt (I : Inv c g σ s) {k : Nat} {C : Cell} {a : Addr} (h1 : σ.cells[k]? = some C) (h2 : C.live = true) (h3 : g.ad k = some a) : a < s.heap.objs.size := by
  obtain ⟨a', q1, _, _, q4⟩ := I.cells k C h1 h2
  rw [h3] at q1; cases q1
  obtain ⟨o, ho⟩ := q4.there h2
  exact Heap.lt_size ho

/-- a new frozen object -/
noncomputable def Gh.add (g : Gh) (a : Addr) (o : Obj) : Gh := { g with z := fun b => if b = a then some o else g.z b, K := fun b => if b = a then some o else g.K b }
theorem Gh.add_z (g : Gh) (a : Addr) (o : Obj) : (g.add a o).z a = some o := if_pos rfl
theorem Inv.le_add (I : Inv c g σ s) (o : Obj) : g.le (g.add s.heap.objs.size o) where
  z := fun a o' e => by
    show (if a = _ then some o else g.z a) = _
    rw [if_neg (fun h => by rw [h, I.freshZ] at e; cases e)]; exact e
  K := fun a o' e => by
    show (if a = _ then some o else g.K a) = _
    rw [if_neg (fun h => by rw [h, I.freshK] at e; cases e)]; exact e
  ad := fun _ _ e => e
  new := fun a h1 h2 => by
    show (if a = _ then some o else g.z a) = _
    rw [if_neg (fun h => by rw [h, I.freshK] at h2; exact h2 rfl)]; exact h1

theorem Inv.alloc (I : Inv c g σ s) {o : Obj} (hf : o.isFreed = false) : Inv c (g.add s.heap.objs.size o) σ { s with heap := s.heap.push o } := by
  have L := I.le_add o
  refine ⟨fun a o' e => ?_, fun a o' e => ?_, fun a e => ?_, fun a o' e => L.z _ _ (I.base a o' e), ?_, ?_, ?_, I.inj, I.adU, I.adN, ?_, I.gens, I.os, fun j a e => let ⟨o, h⟩ := I.adAt j a e; ⟨o, Heap.get?_push_of_some _ h⟩, fun j b e h => ?_⟩
  · by_cases h : a = s.heap.objs.size
    · have e' : (if a = s.heap.objs.size then some o else g.K a) = some o' := e
      rw [if_pos h] at e'; cases e'
      subst h
      exact ⟨_, Heap.get?_push_size _ hf, .inl rfl⟩
    · have e' : (if a = s.heap.objs.size then some o else g.K a) = some o' := e
      rw [if_neg h] at e'
      obtain ⟨o2, h1, h2⟩ := I.kept a o' e'
      exact ⟨o2, Heap.get?_push_of_some _ h1, h2⟩
  · by_cases h : a = s.heap.objs.size
    · have e' : (if a = s.heap.objs.size then some o else g.z a) = some o' := e
      rw [if_pos h] at e'; cases e'
      subst h
      exact Heap.get?_push_size _ hf
    · have e' : (if a = s.heap.objs.size then some o else g.z a) = some o' := e
      rw [if_neg h] at e'
      exact Heap.get?_push_of_some _ (I.zin a o' e')
  · have e' : (if a = s.heap.objs.size then some o else g.K a) = none := e
    show (if a = s.heap.objs.size then some o else g.z a) = none
    by_cases h : a = s.heap.objs.size
    · rw [if_pos h] at e'; cases e'
    · rw [if_neg h] at e' ⊢; exact I.zK a e'
  · obtain ⟨m, h1, h2⟩ := I.loc
    exact ⟨m, h1.push o, fun i x a h3 h4 => let ⟨v, q1, q2⟩ := h2 i x a h3 h4; ⟨v, q1, q2.le L⟩⟩
  · show (if c.L = s.heap.objs.size then some o else g.K c.L) = none
    rw [if_neg (Nat.ne_of_lt I.ltL)]; exact I.KL
  · intro k C h1 h2
    obtain ⟨a, q1, q2, q3, q4⟩ := I.cells k C h1 h2
    refine ⟨a, q1, ?_, q3, q4.mono L.z L.ad fun o e => Heap.get?_push_of_some _ e⟩
    show (if a = s.heap.objs.size then some o else g.K a) = none
    rw [if_neg (Nat.ne_of_lt (I.ad_lt h1 h2 q1))]; exact q2
  · intro env he
    obtain ⟨h1, L', o', h2, h3, h4, h5⟩ := I.outer env he
    refine ⟨h1, L', o', h2, ⟨?_, ?_⟩, Heap.get?_push_of_some _ h4, h5⟩
    · show (if L' = s.heap.objs.size then some o else g.z L') = none
      rw [if_neg (Nat.ne_of_lt (Heap.lt_size h4))]; exact h3.1
    · show (if L' = s.heap.objs.size then some o else g.K L') ≠ none
      rw [if_neg (Nat.ne_of_lt (Heap.lt_size h4))]; exact h3.2
  · show (if b = s.heap.objs.size then some o else g.z b) ≠ none
    have h' : (if b = s.heap.objs.size then some o else g.K b) ≠ none := h
    by_cases hb : b = s.heap.objs.size
    · rw [if_pos hb]; exact Option.some_ne_none _
    · rw [if_neg hb] at h' ⊢; exact I.adK j b e h'

/-- a new mutable cell -/
noncomputable def Gh.cell (g : Gh) (k : Nat) (a : Addr) : Gh := { g with ad := fun j => if j = k then some a else g.ad j }
theorem Gh.cell_ad (g : Gh) (k : Nat) (a : Addr) : (g.cell k a).ad k = some a := if_pos rfl
theorem Gh.le_cell {g : Gh} {k : Nat} (a : Addr) (h : g.ad k = none) : g.le (g.cell k a) where
  z := fun _ _ e => e
  K := fun _ _ e => e
  ad := fun j b e => by
    show (if j = k then some a else g.ad j) = _
    rw [if_neg (fun q => by rw [q, h] at e; cases e)]; exact e
  new := fun _ h _ => h

theorem Inv.newCell (I : Inv c g σ s) {vs : List Value} {xs : List AV} (r : RVs g vs xs) :
    Inv c (g.cell σ.cells.length s.heap.objs.size) { σ with cells := σ.cells ++ [.lst xs] } { s with heap := s.heap.push { cls := .type "list", data := .seq vs.toArray } } := by
  have L := Gh.le_cell s.heap.objs.size (I.adN _ (Nat.le_refl _))
  have old : ∀ k C, (σ.cells ++ [Cell.lst xs])[k]? = some C → (k < σ.cells.length ∧ σ.cells[k]? = some C) ∨ (k = σ.cells.length ∧ C = .lst xs) := by
    intro k C e
    by_cases h : k < σ.cells.length
    · rw [List.getElem?_append_left h] at e; exact .inl ⟨h, e⟩
    · rw [List.getElem?_append_right (Nat.le_of_not_lt h)] at e
      have : k = σ.cells.length := by
        have := List.getElem?_eq_some_iff.mp e
        obtain ⟨h', _⟩ := this
        simp at h'; lia
      subst this
      simp at e
      exact .inr ⟨rfl, e.symm⟩
  refine ⟨fun a o' e => ?_, fun a o' e => ?_, I.zK, I.base, ?_, I.KL, ?_, ?_, ?_, ?_, ?_, I.gens, I.os, fun j a e => ?_, fun j a e h => ?_⟩
  · obtain ⟨o2, h1, h2⟩ := I.kept a o' e
    exact ⟨o2, Heap.get?_push_of_some _ h1, h2⟩
  · exact Heap.get?_push_of_some _ (I.zin a o' e)
  · obtain ⟨m, h1, h2⟩ := I.loc
    exact ⟨m, h1.push _, fun i x a h3 h4 => let ⟨v, q1, q2⟩ := h2 i x a h3 h4; ⟨v, q1, q2.le L⟩⟩
  · intro k C e hl
    rcases old k C e with ⟨hk, e'⟩ | ⟨rfl, rfl⟩
    · obtain ⟨a, q1, q2, q3, q4⟩ := I.cells k C e' hl
      exact ⟨a, L.ad _ _ q1, q2, q3, q4.mono L.z L.ad fun o e => Heap.get?_push_of_some _ e⟩
    · exact ⟨_, Gh.cell_ad _ _ _, I.freshK, Nat.ne_of_gt I.ltL, vs, 0, IsL.new _ _, r.le L⟩
  · intro j k a Cj Ck e1 l1 e2 l2 a1 a2
    have a1' : (if j = σ.cells.length then some s.heap.objs.size else g.ad j) = some a := a1
    have a2' : (if k = σ.cells.length then some s.heap.objs.size else g.ad k) = some a := a2
    rcases old j Cj e1 with ⟨hj, e1'⟩ | ⟨rfl, _⟩ <;> rcases old k Ck e2 with ⟨hk, e2'⟩ | ⟨rfl, _⟩
    · rw [if_neg (Nat.ne_of_lt hj)] at a1'; rw [if_neg (Nat.ne_of_lt hk)] at a2'
      exact I.inj j k a Cj Ck e1' l1 e2' l2 a1' a2'
    · rw [if_neg (Nat.ne_of_lt hj)] at a1'; rw [if_pos rfl] at a2'; cases a2'
      exact absurd (I.ad_lt e1' l1 a1') (Nat.lt_irrefl _)
    · rw [if_neg (Nat.ne_of_lt hk)] at a2'; rw [if_pos rfl] at a1'; cases a1'
      exact absurd (I.ad_lt e2' l2 a2') (Nat.lt_irrefl _)
    · rfl
  · intro k e
    show (if k = σ.cells.length then some s.heap.objs.size else g.ad k) = none
    rcases old k _ e with ⟨hk, e'⟩ | ⟨_, q⟩
    · rw [if_neg (Nat.ne_of_lt hk)]; exact I.adU k e'
    · cases q
  · intro k hk
    show (if k = σ.cells.length then some s.heap.objs.size else g.ad k) = none
    have hk' : σ.cells.length + 1 ≤ k := by simpa using hk
    rw [if_neg (by lia)]; exact I.adN k (by lia)
  · intro env he
    obtain ⟨h1, L', o', h2, h3, h4, h5⟩ := I.outer env he
    exact ⟨h1, L', o', h2, h3, Heap.get?_push_of_some _ h4, h5⟩
  · have e' : (if j = σ.cells.length then some s.heap.objs.size else g.ad j) = some a := e
    by_cases hj : j = σ.cells.length
    · rw [if_pos hj] at e'; cases e'; exact ⟨_, IsL.new _ _⟩
    · rw [if_neg hj] at e'
      obtain ⟨o, h⟩ := I.adAt j a e'
      exact ⟨o, Heap.get?_push_of_some _ h⟩
  · have e' : (if j = σ.cells.length then some s.heap.objs.size else g.ad j) = some a := e
    have h : g.K a ≠ none := h
    by_cases hj : j = σ.cells.length
    · rw [if_pos hj] at e'; cases e'; exact absurd I.freshK h
    · rw [if_neg hj] at e'; exact I.adK j a e' h

/-- a store into the frame -/
theorem Inv.store (I : Inv c g σ s) (ok : CxOk c) {m : Str → Option Value} {h' : Heap} {i : Nat} {x : Str} {v : Value} {a : AV} (t : Nat) (hx : c.names[i]? = some x) (r : RV g v a)
    (hm : ∀ (i : Nat) (x : Str) (a : AV), c.names[i]? = some x → σ.vars[i]? = some (some a) → ∃ v, m x = some v ∧ RV g v a)
    (hn : h'.Ns c.L (fun y => if y = x then some v else m y)) (hs : Heap.SameBut c.L s.heap h') :
    Inv c g { σ with vars := σ.vars.set i (some a) } { s with heap := h', toks := t } := by
  have ne : ∀ b, g.K b ≠ none → b ≠ c.L := fun b hb q => hb (q ▸ I.KL)
  refine ⟨fun b o e => ?_, fun b o e => ?_, I.zK, I.base, ⟨_, hn, ?_⟩, I.KL, ?_, I.inj, I.adU, I.adN, ?_, I.gens, I.os, fun j a e => ?_, I.adK⟩
  · obtain ⟨o', h1, h2⟩ := I.kept b o e
    exact ⟨o', (hs.2 b (ne b (by rw [e]; exact Option.some_ne_none _))).trans h1, h2⟩
  · refine (hs.2 b (fun q => ?_)).trans (I.zin b o e)
    rw [q, I.zK _ I.KL] at e; cases e
  · intro j y b h1 h2
    by_cases hj : j = i
    · subst hj
      rw [hx] at h1; cases h1
      simp only [List.getElem?_set_self'] at h2
      cases hv : σ.vars[j]? with
      | none => rw [hv] at h2; cases h2
      | some _ => rw [hv] at h2; simp at h2; subst h2; exact ⟨v, by simp, r⟩
    · have h2' : σ.vars[j]? = some (some b) := by simpa [List.getElem?_set_ne (Ne.symm hj)] using h2
      obtain ⟨w, q1, q2⟩ := hm j y b h1 h2'
      refine ⟨w, ?_, q2⟩
      rw [if_neg]
      · exact q1
      · rintro rfl
        exact hj ((List.getElem?_inj (List.getElem?_eq_some_iff.mp h1).1 ok.nodup).mp (h1.trans hx.symm))
  · intro k C h1 h2
    obtain ⟨b, q1, q2, q3, q4⟩ := I.cells k C h1 h2
    exact ⟨b, q1, q2, q3, q4.mono (fun _ _ e => e) (fun _ _ e => e) fun o e => (hs.2 b q3).trans e⟩
  · intro env he
    obtain ⟨h1, L', o', h2, h3, h4, h5⟩ := I.outer env he
    by_cases hL : L' = c.L
    · obtain ⟨oL, es, ep, ho, hd, _⟩ := hn
      exact ⟨h1, L', oL, h2, h3, hL ▸ ho, fun vs q => by rw [hd] at q; cases q⟩
    · exact ⟨h1, L', o', h2, h3, (hs.2 L' hL).trans h4, h5⟩
  · by_cases h : a = c.L
    · obtain ⟨oL, es, ep, ho, _⟩ := hn; exact ⟨oL, h ▸ ho⟩
    · obtain ⟨o, ho⟩ := I.adAt j a e; exact ⟨o, (hs.2 a h).trans ho⟩

/-- a cell's content turns -/
theorem Inv.setCell (I : Inv c g σ s) {h' : Heap} {k : Nat} {a : Addr} {C C' : Cell} (t : Nat) (hk : σ.cells[k]? = some C) (hl : C.live = true) (ha : g.ad k = some a)
    (hs : Heap.SameBut a s.heap h') (hl' : C'.live = true) (hc : CellOk g h' a C') :
    Inv c g { σ with cells := σ.cells.set k C' } { s with heap := h', toks := t } := by
  obtain ⟨a', q1, q2, q3, q4⟩ := I.cells k C hk hl
  rw [ha] at q1; cases q1
  have ne : ∀ b, g.K b ≠ none → b ≠ a := fun b hb q => hb (q ▸ q2)
  have klt : k < σ.cells.length := (List.getElem?_eq_some_iff.mp hk).1
  have at_ : ∀ j D, (σ.cells.set k C')[j]? = some D → (j = k ∧ D = C') ∨ (j ≠ k ∧ σ.cells[j]? = some D) := by
    intro j D e
    by_cases hj : j = k
    · subst hj; rw [List.getElem?_set_self klt] at e; exact .inl ⟨rfl, (Option.some.inj e).symm⟩
    · rw [List.getElem?_set_ne (Ne.symm hj)] at e; exact .inr ⟨hj, e⟩
  refine ⟨fun b o e => ?_, fun b o e => ?_, I.zK, I.base, ?_, I.KL, ?_, ?_, ?_, ?_, ?_, I.gens, I.os, fun j b e => ?_, I.adK⟩
  · obtain ⟨o', h1, h2⟩ := I.kept b o e
    exact ⟨o', (hs.2 b (ne b (by rw [e]; exact Option.some_ne_none _))).trans h1, h2⟩
  · refine (hs.2 b (fun q => ?_)).trans (I.zin b o e)
    rw [q, I.zK _ q2] at e; cases e
  · obtain ⟨m, h1, h2⟩ := I.loc
    exact ⟨m, h1.sameBut hs (Ne.symm q3), h2⟩
  · intro j D e l
    rcases at_ j D e with ⟨rfl, rfl⟩ | ⟨hj, e'⟩
    · exact ⟨a, ha, q2, q3, hc⟩
    · obtain ⟨b, p1, p2, p3, p4⟩ := I.cells j D e' l
      refine ⟨b, p1, p2, p3, p4.mono (fun _ _ e => e) (fun _ _ e => e) fun o e => (hs.2 b fun q => hj ?_).trans e⟩
      subst q
      exact I.inj j k b D C e' l hk hl p1 ha
  · intro i j b Ci Cj e1 l1 e2 l2 a1 a2
    rcases at_ i Ci e1 with ⟨rfl, rfl⟩ | ⟨hi, e1'⟩ <;> rcases at_ j Cj e2 with ⟨rfl, rfl⟩ | ⟨hj, e2'⟩
    · rfl
    · exact I.inj _ _ b C Cj hk hl e2' l2 a1 a2
    · exact I.inj _ _ b Ci C e1' l1 hk hl a1 a2
    · exact I.inj _ _ b Ci Cj e1' l1 e2' l2 a1 a2
  · intro j e
    rcases at_ j _ e with ⟨rfl, h⟩ | ⟨_, e'⟩
    · rw [← h] at hl'; cases hl'
    · exact I.adU j e'
  · intro j hj
    exact I.adN j (by simpa using hj)
  · intro env he
    obtain ⟨h1, L', o', h2, h3, h4, h5⟩ := I.outer env he
    by_cases hL : L' = a
    · have : ∃ o, h'.get? a = some o ∧ ∀ vs, o.data ≠ .fields vs := by
        cases C' with
        | unborn => cases hl'
        | dead => cases hl'
        | lst _ => obtain ⟨vs, n, p1, _⟩ := hc; exact ⟨_, p1, fun vs q => by cases q⟩
        | dct _ => obtain ⟨es, n, p1, _⟩ := hc; exact ⟨_, p1, fun vs q => by cases q⟩
      obtain ⟨o, p1, p2⟩ := this
      exact ⟨h1, L', o, h2, h3, hL ▸ p1, p2⟩
    · exact ⟨h1, L', o', h2, h3, (hs.2 L' hL).trans h4, h5⟩
  · by_cases h : b = a
    · obtain ⟨o, ho⟩ := hc.there hl'; exact ⟨o, h ▸ ho⟩
    · obtain ⟨o, ho⟩ := I.adAt j b e; exact ⟨o, (hs.2 b h).trans ho⟩
end
end Mine
end

-- E2
section
open PySem PySem.W PyProof.Rows
set_option linter.unusedVariables false
namespace Mine

/-! the mini language -/
set_option genCtorIdx false in
mutual
inductive CE where
  | var (i : Nat)
  | frz (i : Nat)
  | int (n : Int)
  | neg (e : CE)
  | str (s : Str)
  | non
  | bool (b : Bool)
  | gint (x : Str) (n : Int)
  | tup (es : CEs)
  | lst (es : CEs)
  | bin (op : Operator) (a b : CE)
  | cmp (op : CmpOp) (a b : CE)
  | bop (op : BoolOp) (es : CEs)
  | not (e : CE)
  | ite (c a b : CE)
  | call (x : Str) (f : Addr) (es : CEs)
  | meth (i : Nat) (x : Str) (f : Addr) (es : CEs)
  | len (a : CE)
  | chr (a : CE)
  | abs (a : CE)
  | int' (a : CE)
  | max (a b : CE)
  | tuple (a : CE)
  | join (a : CE)
  | ords (a : CE)
  | wholes (a : CE)
  | find (s : Str) (a : CE)
  | starts (i : Nat) (s : Str)
  | sub (a i : CE)
  | slice (a : CE) (lo hi : Option Nat) (lv hv : Option Nat)
  | attr (i : Nat) (f : Fld)
  | newTok (a : CE)
inductive CEs where
  | nil
  | cons (e : CE) (es : CEs)
end

set_option genCtorIdx false in
mutual
inductive CS where
  | asg (i : Nat) (e : CE)
  | asgL (i : Nat) (es : CEs)
  | unp (is : List Nat) (e : CE)
  | setAt (i : Nat) (f : Fld) (e : CE)
  | setSub (i n : Nat) (e : CE)
  | aug (i : Nat) (op : Operator) (e : CE)
  | augSub (i n : Nat) (op : Operator) (e : CE)
  | app (i : Nat) (e : CE)
  | rev (i : Nat)
  | exp (e : CE)
  | cif (c : CE) (t e : CSs)
  | whl (c : CE) (b : CSs)
  | forR (i : Nat) (e : CE) (b : CSs)
  | forL (i : Nat) (e : CE) (b : CSs)
  | ret (e : CE)
  | ret0
  | retL (es : CEs)
  | brk
  | raiseF (kind : Str) (e : CE)
  | tryN (body handler : CSs)
  | tryA (body : CSs) (i : Nat) (handler : CSs)
inductive CSs where
  | nil
  | cons (s : CS) (ss : CSs)
end

/-! abstract operations -/
noncomputable def AS.get (σ : AS) (i : Nat) : Option AV := (σ.vars[i]?).join
noncomputable def AS.put (σ : AS) (i : Nat) (a : AV) : AS := { σ with vars := σ.vars.set i (some a) }
noncomputable def AS.del (σ : AS) (i : Nat) : AS := { σ with vars := σ.vars.set i none }
noncomputable def AS.setC (σ : AS) (k : Nat) (C : Cell) : AS := { σ with cells := σ.cells.set k C }
/-- the two cells that calls share: the pool, the tokenizer's attributes -/
noncomputable def AS.gc (σ : AS) : List Cell := σ.cells.take 2
noncomputable def AS.setG (σ : AS) (gc : List Cell) : AS := { σ with cells := gc ++ σ.cells.drop 2 }

noncomputable def AS.items (σ : AS) : AV → Option (List AV)
  | .lst xs => some xs
  | .ref k => match σ.cells[k]? with
    | some (.lst xs) => some xs
    | _ => none
  | _ => none
noncomputable def AS.seq (σ : AS) : AV → Option (List AV)
  | .tup xs => some xs
  | a => σ.items a

mutual
noncomputable def AV.closed : AV → Bool
  | .ref k => decide (k < 2)
  | .ins k => decide (k < 2)
  | .tup xs => AV.closedL xs
  | .lst xs => AV.closedL xs
  | _ => true
noncomputable def AV.closedL : List AV → Bool
  | [] => true
  | x :: xs => x.closed && AV.closedL xs
end

noncomputable def tr : AV → Option Bool
  | .bool b => some b
  | _ => none

mutual
noncomputable def AV.pd : AV → Option PyData
  | .non => some .none
  | .bool b => some (.bool b)
  | .int i => some (.int i)
  | .str s => some (.str s)
  | .tup xs => (AV.pdL xs).map .tuple
  | .lst xs => (AV.pdL xs).map .list
  | _ => none
noncomputable def AV.pdL : List AV → Option (List PyData)
  | [] => some []
  | x :: xs => match x.pd, AV.pdL xs with
    | some d, some ds => some (d :: ds)
    | _, _ => none
end
/-- a value as data; a cell's list is read out -/
noncomputable def AS.data (σ : AS) : AV → Option PyData
  | .ref k => match σ.cells[k]? with
    | some (.lst xs) => (AV.pdL xs).map .list
    | _ => none
  | a => a.pd

noncomputable def int2 (a b : AV) (k : Int → Int → Prop) : Prop := match a with
  | .int x => (match b with | .int y => k x y | _ => False)
  | _ => False
noncomputable def addL (σ : AS) (a b : AV) (Q : AV → Prop) : Prop := match σ.items a, σ.items b with
    | some xs, some ys => xs.length + ys.length ≤ sizeLine ∧ Q (.lst (xs ++ ys))
    | _, _ => False
noncomputable def addS (σ : AS) (a b : AV) (Q : AV → Prop) : Prop := match a with
  | .int x => (match b with | .int y => Q (.int (x + y)) | _ => False)
  | .str x => (match b with | .str y => x.length + y.length ≤ sizeLine ∧ Q (.str (x ++ y)) | _ => False)
  | a => addL σ a b Q
noncomputable def mulS (a b : AV) (Q : AV → Prop) : Prop := match a with
  | .int x => (match b with | .int y => IntMulOk x y ∧ Q (.int (x * y)) | _ => False)
  | .lst xs => (match xs with
    | [x] => (match b with | .int n => 0 ≤ n ∧ n ≤ 1000 ∧ Q (.lst (List.replicate n.toNat x)) | _ => False)
    | _ => False)
  | _ => False
noncomputable def binS (op : Operator) (σ : AS) (a b : AV) (Q : AV → Prop) : Prop := match op with
  | .Add => addS σ a b Q
  | .Sub => int2 a b fun x y => Q (.int (x - y))
  | .Mult => mulS a b Q
  | .FloorDiv => int2 a b fun x y => 0 < y ∧ y < 10000 ∧ Q (.int (x.fdiv y))
  | .Mod => int2 a b fun x y => y ≠ 0 ∧ Q (.int (x.fmod y))
  | _ => False
noncomputable def eqP (neg : Bool) (d d' : Option PyData) (Q : Bool → Prop) : Prop := match d, d' with
  | some d, some d' => d.canLay0 = true ∧ d'.canLay0 = true ∧ min d.depth d'.depth ≤ 10 ∧ Q (if neg then !PyData.eqv d d' else PyData.eqv d d')
  | _, _ => False
noncomputable def eqS (σ : AS) (a b : AV) (Q : Bool → Prop) : Prop := match a with
  | .int x => (match b with | .int y => Q (decide (x = y)) | _ => eqP false (σ.data (.int x)) (σ.data b) Q)
  | .str x => (match b with | .str y => Q (decide (x = y)) | _ => eqP false (σ.data (.str x)) (σ.data b) Q)
  | a => eqP false (σ.data a) (σ.data b) Q
noncomputable def neS (σ : AS) (a b : AV) (Q : Bool → Prop) : Prop := match a with
  | .int x => (match b with | .int y => Q (!decide (x = y)) | _ => eqP true (σ.data (.int x)) (σ.data b) Q)
  | a => eqP true (σ.data a) (σ.data b) Q
noncomputable def inS (a b : AV) (Q : Bool → Prop) : Prop := match a with
  | .str x => (match b with
    | .str y => Q (Txt.contains y x)
    | .lst ys => ∃ ns : List Str, ys = ns.map .str ∧ Q (ns.any (· == x))
    | _ => False)
  | .int x => (match b with
    | .lst ys => ∃ ns : List Int, ys = ns.map .int ∧ Q (ns.any (· == x))
    | _ => False)
  | _ => False
noncomputable def cmpS (op : CmpOp) (σ : AS) (a b : AV) (Q : Bool → Prop) : Prop := match op with
  | .Lt => int2 a b fun x y => Q (decide (x < y))
  | .LtE => int2 a b fun x y => Q (decide (x ≤ y))
  | .Gt => int2 a b fun x y => Q (decide (y < x))
  | .GtE => int2 a b fun x y => Q (decide (y ≤ x))
  | .Eq => eqS σ a b Q
  | .NotEq => neS σ a b Q
  | .In => inS a b Q
  | _ => False

inductive AF where
  | next | brk
  | ret (v : AV)

noncomputable abbrev Phi := Str × Int × Int × Int
noncomputable abbrev Spec1 := Addr → List AV → List Cell → (AV → List Cell → Prop) → (Phi → List Cell → Prop) → Prop

noncomputable def partOf (σ : AS) (n : Option Nat) (v : Option Nat) : Option (Option Int) :=
  match n, v with
  | some k, _ => some (some (k : Int))
  | none, some i => (match σ.get i with | some (.int k) => if 0 ≤ k then some (some k) else none | _ => none)
  | none, none => some none

noncomputable def optP {α : Type} (o : Option α) (k : α → Prop) : Prop := match o with | some a => k a | none => False
noncomputable def isTrueP (o : Option Bool) (A B : Prop) : Prop := match o with | some true => A | some false => B | none => False
noncomputable def boolP (op : BoolOp) (o : Option Bool) (A B : Prop) : Prop := match op with | .And => isTrueP o A B | .Or => isTrueP o B A

noncomputable def lstAt (C : Option Cell) (k : List AV → Prop) : Prop := match C with | some (.lst xs) => k xs | _ => False
noncomputable def dctAt (C : Option Cell) (k : List (Fld × AV) → Prop) : Prop := match C with | some (.dct xs) => k xs | _ => False
noncomputable def refP (u : Option AV) (k : Nat → Prop) : Prop := match u with | some (.ref n) => k n | _ => False
noncomputable def intP (u : AV) (k : Int → Prop) : Prop := match u with | .int n => k n | _ => False
noncomputable def oIntP (u : Option AV) (k : Int → Prop) : Prop := match u with | some (.int n) => k n | _ => False
noncomputable def lstP (u : AV) (k : List AV → Prop) : Prop := match u with | .lst n => k n | _ => False
noncomputable def isI (n : Nat) (k : Prop) : Prop := match n with | 1 => k | _ => False
noncomputable def insP (u : Option AV) (C : Option Cell) (k : List (Fld × AV) → Prop) : Prop := match u with | some (.ins n) => isI n (dctAt C k) | _ => False
noncomputable def frzP (i : Nat) (σ : AS) (u : Option AV) (Q : AV → AS → Prop) : Prop := match u with
  | some (.ref k) => lstAt σ.cells[k]? fun xs => 2 ≤ k ∧ Q (.lst xs) ((σ.put i (.lst xs)).setC k .dead)
  | some (.lst xs) => Q (.lst xs) σ
  | _ => False
noncomputable def strP (u : Option AV) (k : Str → Prop) : Prop := match u with | some (.str y) => k y | _ => False
noncomputable def fltP (f : Fld) (kd : Str) (a r c : Int) (Q : AV → Prop) : Prop := match f with
  | .kind => Q (.str kd) | .at => Q (.int a) | .row => Q (.int r) | .column => Q (.int c) | _ => False
noncomputable def attrP (f : Fld) (u : Option AV) (C : Option Cell) (Q : AV → Prop) : Prop := match u with
  | some (.ins n) => isI n (dctAt C fun fs => optP (fs.lookup f) Q)
  | some (.flt kd a r c) => fltP f kd a r c Q
  | _ => False
section
variable {G : Prop} {u : Option AV} {C : Option Cell}
theorem optP_el {α : Type} {o : Option α} {k : α → Prop} (h : optP o k) (f : ∀ a, o = some a → k a → G) : G := by
  cases o with
  | none => exact h.elim
  | some a => exact f a rfl h
theorem lstAt_el {k : List AV → Prop} (h : lstAt C k) (f : ∀ xs, C = some (.lst xs) → k xs → G) : G := by
  cases C with
  | none => exact False.elim h
  | some c => cases c <;> first | exact f _ rfl h | exact False.elim h
theorem dctAt_el {k : List (Fld × AV) → Prop} (h : dctAt C k) (f : ∀ xs, C = some (.dct xs) → k xs → G) : G := by
  cases C with
  | none => exact False.elim h
  | some c => cases c <;> first | exact f _ rfl h | exact False.elim h
theorem refP_el {k : Nat → Prop} (h : refP u k) (f : ∀ n, u = some (.ref n) → k n → G) : G := by
  cases u with
  | none => exact False.elim h
  | some c => cases c <;> first | exact f _ rfl h | exact False.elim h
theorem oIntP_el {k : Int → Prop} (h : oIntP u k) (f : ∀ n, u = some (.int n) → k n → G) : G := by
  cases u with
  | none => exact False.elim h
  | some c => cases c <;> first | exact f _ rfl h | exact False.elim h
theorem strP_el {k : Str → Prop} (h : strP u k) (f : ∀ n, u = some (.str n) → k n → G) : G := by
  cases u with
  | none => exact False.elim h
  | some c => cases c <;> first | exact f _ rfl h | exact False.elim h
theorem intP_el {v : AV} {k : Int → Prop} (h : intP v k) (f : ∀ n, v = .int n → k n → G) : G := by
  cases v <;> first | exact f _ rfl h | exact False.elim h
theorem lstP_el {v : AV} {k : List AV → Prop} (h : lstP v k) (f : ∀ n, v = .lst n → k n → G) : G := by
  cases v <;> first | exact f _ rfl h | exact False.elim h
theorem isI_el {n : Nat} {k : Prop} (h : isI n k) : n = 1 ∧ k := by
  match n, h with
  | 0, h => exact False.elim h
  | 1, h => exact ⟨rfl, h⟩
  | n + 2, h => exact False.elim h
theorem insP_el {k : List (Fld × AV) → Prop} (h : insP u C k) (f : ∀ fs, u = some (.ins 1) → C = some (.dct fs) → k fs → G) : G := by
  cases u with
  | none => exact False.elim h
  | some c => cases c <;> first
    | exact dctAt_el (isI_el h).2 fun fs e q => f fs (by rw [(isI_el h).1]) e q
    | exact False.elim h
theorem frzP_el {i : Nat} {σ : AS} {Q : AV → AS → Prop} (h : frzP i σ u Q) (f1 : ∀ k xs, u = some (.ref k) → σ.cells[k]? = some (.lst xs) → Q (.lst xs) ((σ.put i (.lst xs)).setC k .dead) → G) (f2 : ∀ xs, u = some (.lst xs) → Q (.lst xs) σ → G) : G := by
  cases u with
  | none => exact False.elim h
  | some c => cases c <;> first
    | exact lstAt_el h fun xs e q => f1 _ xs rfl e q.2
    | exact f2 _ rfl h
    | exact False.elim h
theorem attrP_el {f : Fld} {Q : AV → Prop} (h : attrP f u C Q) (f1 : ∀ fs v, u = some (.ins 1) → C = some (.dct fs) → fs.lookup f = some v → Q v → G) (f2 : ∀ kd a r c, u = some (.flt kd a r c) → fltP f kd a r c Q → G) : G := by
  cases u with
  | none => exact False.elim h
  | some c => cases c <;> first
    | exact dctAt_el (isI_el h).2 fun fs e q => optP_el q fun v e2 q => f1 fs v (by rw [(isI_el h).1]) e e2 q
    | exact f2 _ _ _ _ rfl h
    | exact False.elim h
end
section
variable (Φ : Spec1)
mutual
noncomputable def wpE : CE → AS → (AV → AS → Prop) → (Phi → AS → Prop) → Prop
  | .var i, σ, Q, _ => optP (σ.get i) fun a => Q a σ
  | .frz i, σ, Q, _ => frzP i σ (σ.get i) Q
  | .int n, σ, Q, _ => Q (.int n) σ
  | .neg e, σ, Q, X => wpE e σ (fun a σ' => match a with | .int n => Q (.int (-n)) σ' | _ => False) X
  | .str x, σ, Q, _ => Q (.str x) σ
  | .non, σ, Q, _ => Q .non σ
  | .bool b, σ, Q, _ => Q (.bool b) σ
  | .gint _ n, σ, Q, _ => Q (.int n) σ
  | .tup es, σ, Q, X => wpEs es σ (fun xs σ' => xs.length ≤ 100 ∧ Q (.tup xs) σ') X
  | .lst es, σ, Q, X => wpEs es σ (fun xs σ' => xs.length ≤ 100 ∧ Q (.lst xs) σ') X
  | .bin op a b, σ, Q, X => wpE a σ (fun x σ1 => wpE b σ1 (fun y σ2 => binS op σ2 x y (fun v => Q v σ2)) X) X
  | .cmp op a b, σ, Q, X => wpE a σ (fun x σ1 => wpE b σ1 (fun y σ2 => cmpS op σ2 x y (fun v => Q (.bool v) σ2)) X) X
  | .bop op es, σ, Q, X => wpB op es σ Q X
  | .not e, σ, Q, X => wpE e σ (fun a σ' => optP (tr a) fun b => Q (.bool (!b)) σ') X
  | .ite c a b, σ, Q, X => wpE c σ (fun t σ' => isTrueP (tr t) (wpE a σ' Q X) (wpE b σ' Q X)) X
  | .call _ f es, σ, Q, X => wpEs es σ (fun xs σ' => AV.closedL xs = true ∧ Φ f xs σ'.gc (fun r gc => Q r (σ'.setG gc)) (fun φ gc => X φ (σ'.setG gc))) X
  | .meth i x f es, σ, Q, X => insP (σ.get i) σ.cells[1]? fun _ => wpEs es σ (fun xs σ' => AV.closedL xs = true ∧ Φ f (.ins 1 :: xs) σ'.gc (fun r gc => Q r (σ'.setG gc)) (fun φ gc => X φ (σ'.setG gc))) X
  | .len a, σ, Q, X => wpE a σ (fun x σ' => optP (σ'.items x) fun xs => xs.length ≤ sizeLine ∧ Q (.int xs.length) σ') X
  | .chr a, σ, Q, X => wpE a σ (fun x σ' => match x with | .int n => 0 ≤ n ∧ n ≤ 1114111 ∧ Q (.str ⟨#[n.toNat]⟩) σ' | _ => False) X
  | .abs a, σ, Q, X => wpE a σ (fun x σ' => match x with | .int n => Q (.int (if n < 0 then -n else n)) σ' | _ => False) X
  | .int' a, σ, Q, X => wpE a σ (fun x σ' => match x with | .int n => Q (.int n) σ' | _ => False) X
  | .max a b, σ, Q, X => wpE a σ (fun x σ1 => wpE b σ1 (fun y σ2 => match x, y with | .int m, .int n => Q (.int (if n > m then n else m)) σ2 | _, _ => False) X) X
  | .tuple a, σ, Q, X => wpE a σ (fun x σ' => optP (σ'.items x) fun xs => xs.length ≤ 100000 ∧ Q (.tup xs) σ') X
  | .join a, σ, Q, X => wpE a σ (fun x σ' => optP (σ'.items x) fun xs => ∃ ns : List Nat, xs = ns.map (fun n : Nat => AV.int (n : Int)) ∧ (∀ n ∈ ns, n ≤ 1114111) ∧ ns.length ≤ 100000 ∧ Q (.str ⟨ns.toArray⟩) σ') X
  | .ords a, σ, Q, X => wpE a σ (fun x σ' => match x with | .str s => s.length ≤ 100000 ∧ Q (.lst (s.cps.toList.map fun n : Nat => AV.int (n : Int))) σ' | _ => False) X
  | .wholes a, σ, Q, X => wpE a σ (fun x σ' => optP (σ'.items x) fun xs => ∃ ns : List Int, xs = ns.map .int ∧ ns.length ≤ 100000 ∧ Q (.lst (ns.map fun n => .int ((if n < 0 then -n else n).fmod (10 ^ 25)))) σ') X
  | .find s a, σ, Q, X => wpE a σ (fun x σ' => match x with | .str y => Q (.int (Txt.find s y)) σ' | _ => False) X
  | .starts i s, σ, Q, _ => strP (σ.get i) fun y => Q (.bool (Txt.startswith y s)) σ
  | .sub a i, σ, Q, X => wpE a σ (fun x σ1 => wpE i σ1 (fun y σ2 => match y with
      | .int k => (match x with
        | .str s => 0 ≤ k ∧ k < s.length ∧ k < 100000 ∧ ∃ ch, s.cps[k.toNat]? = some ch ∧ Q (.str ⟨#[ch]⟩) σ2
        | x => optP (σ2.seq x) fun xs => 0 ≤ k ∧ k < 100000 ∧ ∃ v, xs[k.toNat]? = some v ∧ Q v σ2)
      | _ => False) X) X
  | .slice a lo hi lv hv, σ, Q, X => wpE a σ (fun x σ' => match σ'.items x, partOf σ' lo lv, partOf σ' hi hv with
      | some xs, some l, some h => xs.length ≤ sizeLine ∧ Q (.lst ((xs.take (h.elim xs.length (·.toNat))).drop (l.elim 0 (·.toNat)))) σ'
      | _, _, _ => False) X
  | .attr i f, σ, Q, _ => attrP f (σ.get i) σ.cells[1]? fun v => Q v σ
  | .newTok a, σ, Q, X => wpE a σ (fun x σ' => AV.closedL [x] = true ∧ Φ tokC [x] σ'.gc (fun r gc => Q r (σ'.setG gc)) (fun _ _ => False)) X
noncomputable def wpEs : CEs → AS → (List AV → AS → Prop) → (Phi → AS → Prop) → Prop
  | .nil, σ, Q, _ => Q [] σ
  | .cons e es, σ, Q, X => wpE e σ (fun x σ1 => wpEs es σ1 (fun xs σ2 => Q (x :: xs) σ2) X) X
noncomputable def wpB (op : BoolOp) : CEs → AS → (AV → AS → Prop) → (Phi → AS → Prop) → Prop
  | .nil, _, _, _ => False
  | .cons e .nil, σ, Q, X => wpE e σ Q X
  | .cons e es, σ, Q, X => wpE e σ (fun x σ' => boolP op (tr x) (wpB op es σ' Q X) (Q x σ')) X
end
end
end Mine
end

-- ED
section
open PySem PySem.W PyProof.Rows
set_option linter.unusedVariables false
namespace Mine
theorem ff_el {P : Prop} (h : false = true) : P := Bool.noConfusion h
noncomputable def dConst (e : Expr) (k : Const → Nat → Pos → Bool) : Bool := Expr.casesOn (motive_1 := fun _ => Bool) e (fun _ _ _ => false) (fun _ _ _ => false) (fun _ _ _ _ => false) (fun _ _ _ => false) (fun _ _ _ _ => false) (fun _ _ _ _ => false) (fun _ _ _ => false) (fun _ _ _ => false) (fun _ _ _ _ => false) (fun _ _ _ _ => false) (fun _ _ _ _ _ => false) (fun _ _ _ _ => false) (fun _ _ => false) (fun _ _ => false) (fun _ _ => false) (fun _ _ _ _ => false) (fun _ _ _ _ => false) (fun _ _ _ _ => false) (fun _ _ => false) k (fun _ _ _ => false) (fun _ _ _ => false) (fun _ _ => false) (fun _ _ => false) (fun _ _ => false) (fun _ _ _ => false) (fun _ _ _ _ => false)
theorem dConst_el {e : Expr} {k : Const → Nat → Pos → Bool} {M : Expr → Prop} (h : dConst e k = true) (f : ∀ (x0 : Const) (x1 : Nat) (x2 : Pos), k x0 x1 x2 = true → M (.Constant x0 x1 x2)) : M e := Expr.casesOn (motive_1 := fun e => dConst e k = true → M e) e (fun _ _ _ => ff_el) (fun _ _ _ => ff_el) (fun _ _ _ _ => ff_el) (fun _ _ _ => ff_el) (fun _ _ _ _ => ff_el) (fun _ _ _ _ => ff_el) (fun _ _ _ => ff_el) (fun _ _ _ => ff_el) (fun _ _ _ _ => ff_el) (fun _ _ _ _ => ff_el) (fun _ _ _ _ _ => ff_el) (fun _ _ _ _ => ff_el) (fun _ _ => ff_el) (fun _ _ => ff_el) (fun _ _ => ff_el) (fun _ _ _ _ => ff_el) (fun _ _ _ _ => ff_el) (fun _ _ _ _ => ff_el) (fun _ _ => ff_el) f (fun _ _ _ => ff_el) (fun _ _ _ => ff_el) (fun _ _ => ff_el) (fun _ _ => ff_el) (fun _ _ => ff_el) (fun _ _ _ => ff_el) (fun _ _ _ _ => ff_el) h
noncomputable def dCI (e : Const) (k : Int → Bool) : Bool := match e with | .int x0 => k x0 | _ => false
theorem dCI_el {e : Const} {k : Int → Bool} {M : Const → Prop} (h : dCI e k = true) (f : ∀ (x0 : Int), k x0 = true → M (.int x0)) : M e := by cases e <;> first | exact f _ h | exact Bool.noConfusion h
noncomputable def dCS (e : Const) (k : Str → Bool) : Bool := match e with | .str x0 => k x0 | _ => false
theorem dCS_el {e : Const} {k : Str → Bool} {M : Const → Prop} (h : dCS e k = true) (f : ∀ (x0 : Str), k x0 = true → M (.str x0)) : M e := by cases e <;> first | exact f _ h | exact Bool.noConfusion h
noncomputable def dCN (e : Const) (k : Bool) : Bool := match e with | .none => k | _ => false
theorem dCN_el {e : Const} {k : Bool} {M : Const → Prop} (h : dCN e k = true) (f : k = true → M (.none)) : M e := by cases e <;> first | exact f h | exact Bool.noConfusion h
noncomputable def dCB (e : Const) (k : Bool → Bool) : Bool := match e with | .bool x0 => k x0 | _ => false
theorem dCB_el {e : Const} {k : Bool → Bool} {M : Const → Prop} (h : dCB e k = true) (f : ∀ (x0 : Bool), k x0 = true → M (.bool x0)) : M e := by cases e <;> first | exact f _ h | exact Bool.noConfusion h
noncomputable def dUn (e : Expr) (k : UnaryOp → Expr → Pos → Bool) : Bool := Expr.casesOn (motive_1 := fun _ => Bool) e (fun _ _ _ => false) (fun _ _ _ => false) (fun _ _ _ _ => false) k (fun _ _ _ _ => false) (fun _ _ _ _ => false) (fun _ _ _ => false) (fun _ _ _ => false) (fun _ _ _ _ => false) (fun _ _ _ _ => false) (fun _ _ _ _ _ => false) (fun _ _ _ _ => false) (fun _ _ => false) (fun _ _ => false) (fun _ _ => false) (fun _ _ _ _ => false) (fun _ _ _ _ => false) (fun _ _ _ _ => false) (fun _ _ => false) (fun _ _ _ => false) (fun _ _ _ => false) (fun _ _ _ => false) (fun _ _ => false) (fun _ _ => false) (fun _ _ => false) (fun _ _ _ => false) (fun _ _ _ _ => false)
theorem dUn_el {e : Expr} {k : UnaryOp → Expr → Pos → Bool} {M : Expr → Prop} (h : dUn e k = true) (f : ∀ (x0 : UnaryOp) (x1 : Expr) (x2 : Pos), k x0 x1 x2 = true → M (.UnaryOp x0 x1 x2)) : M e := Expr.casesOn (motive_1 := fun e => dUn e k = true → M e) e (fun _ _ _ => ff_el) (fun _ _ _ => ff_el) (fun _ _ _ _ => ff_el) f (fun _ _ _ _ => ff_el) (fun _ _ _ _ => ff_el) (fun _ _ _ => ff_el) (fun _ _ _ => ff_el) (fun _ _ _ _ => ff_el) (fun _ _ _ _ => ff_el) (fun _ _ _ _ _ => ff_el) (fun _ _ _ _ => ff_el) (fun _ _ => ff_el) (fun _ _ => ff_el) (fun _ _ => ff_el) (fun _ _ _ _ => ff_el) (fun _ _ _ _ => ff_el) (fun _ _ _ _ => ff_el) (fun _ _ => ff_el) (fun _ _ _ => ff_el) (fun _ _ _ => ff_el) (fun _ _ _ => ff_el) (fun _ _ => ff_el) (fun _ _ => ff_el) (fun _ _ => ff_el) (fun _ _ _ => ff_el) (fun _ _ _ _ => ff_el) h
noncomputable def dUSub (e : UnaryOp) (k : Bool) : Bool := match e with | .USub => k | _ => false
theorem dUSub_el {e : UnaryOp} {k : Bool} {M : UnaryOp → Prop} (h : dUSub e k = true) (f : k = true → M (.USub)) : M e := by cases e <;> first | exact f h | exact Bool.noConfusion h
noncomputable def dUNot (e : UnaryOp) (k : Bool) : Bool := match e with | .Not => k | _ => false
theorem dUNot_el {e : UnaryOp} {k : Bool} {M : UnaryOp → Prop} (h : dUNot e k = true) (f : k = true → M (.Not)) : M e := by cases e <;> first | exact f h | exact Bool.noConfusion h
noncomputable def dTup (e : Expr) (k : List Expr → Nat → Pos → Bool) : Bool := Expr.casesOn (motive_1 := fun _ => Bool) e (fun _ _ _ => false) (fun _ _ _ => false) (fun _ _ _ _ => false) (fun _ _ _ => false) (fun _ _ _ _ => false) (fun _ _ _ _ => false) (fun _ _ _ => false) (fun _ _ _ => false) (fun _ _ _ _ => false) (fun _ _ _ _ => false) (fun _ _ _ _ _ => false) (fun _ _ _ _ => false) (fun _ _ => false) (fun _ _ => false) (fun _ _ => false) (fun _ _ _ _ => false) (fun _ _ _ _ => false) (fun _ _ _ _ => false) (fun _ _ => false) (fun _ _ _ => false) (fun _ _ _ => false) (fun _ _ _ => false) (fun _ _ => false) (fun _ _ => false) (fun _ _ => false) k (fun _ _ _ _ => false)
theorem dTup_el {e : Expr} {k : List Expr → Nat → Pos → Bool} {M : Expr → Prop} (h : dTup e k = true) (f : ∀ (x0 : List Expr) (x1 : Nat) (x2 : Pos), k x0 x1 x2 = true → M (.Tuple x0 x1 x2)) : M e := Expr.casesOn (motive_1 := fun e => dTup e k = true → M e) e (fun _ _ _ => ff_el) (fun _ _ _ => ff_el) (fun _ _ _ _ => ff_el) (fun _ _ _ => ff_el) (fun _ _ _ _ => ff_el) (fun _ _ _ _ => ff_el) (fun _ _ _ => ff_el) (fun _ _ _ => ff_el) (fun _ _ _ _ => ff_el) (fun _ _ _ _ => ff_el) (fun _ _ _ _ _ => ff_el) (fun _ _ _ _ => ff_el) (fun _ _ => ff_el) (fun _ _ => ff_el) (fun _ _ => ff_el) (fun _ _ _ _ => ff_el) (fun _ _ _ _ => ff_el) (fun _ _ _ _ => ff_el) (fun _ _ => ff_el) (fun _ _ _ => ff_el) (fun _ _ _ => ff_el) (fun _ _ _ => ff_el) (fun _ _ => ff_el) (fun _ _ => ff_el) (fun _ _ => ff_el) f (fun _ _ _ _ => ff_el) h
noncomputable def dList (e : Expr) (k : List Expr → Pos → Bool) : Bool := Expr.casesOn (motive_1 := fun _ => Bool) e (fun _ _ _ => false) (fun _ _ _ => false) (fun _ _ _ _ => false) (fun _ _ _ => false) (fun _ _ _ _ => false) (fun _ _ _ _ => false) (fun _ _ _ => false) (fun _ _ _ => false) (fun _ _ _ _ => false) (fun _ _ _ _ => false) (fun _ _ _ _ _ => false) (fun _ _ _ _ => false) (fun _ _ => false) (fun _ _ => false) (fun _ _ => false) (fun _ _ _ _ => false) (fun _ _ _ _ => false) (fun _ _ _ _ => false) (fun _ _ => false) (fun _ _ _ => false) (fun _ _ _ => false) (fun _ _ _ => false) (fun _ _ => false) (fun _ _ => false) k (fun _ _ _ => false) (fun _ _ _ _ => false)
theorem dList_el {e : Expr} {k : List Expr → Pos → Bool} {M : Expr → Prop} (h : dList e k = true) (f : ∀ (x0 : List Expr) (x1 : Pos), k x0 x1 = true → M (.List x0 x1)) : M e := Expr.casesOn (motive_1 := fun e => dList e k = true → M e) e (fun _ _ _ => ff_el) (fun _ _ _ => ff_el) (fun _ _ _ _ => ff_el) (fun _ _ _ => ff_el) (fun _ _ _ _ => ff_el) (fun _ _ _ _ => ff_el) (fun _ _ _ => ff_el) (fun _ _ _ => ff_el) (fun _ _ _ _ => ff_el) (fun _ _ _ _ => ff_el) (fun _ _ _ _ _ => ff_el) (fun _ _ _ _ => ff_el) (fun _ _ => ff_el) (fun _ _ => ff_el) (fun _ _ => ff_el) (fun _ _ _ _ => ff_el) (fun _ _ _ _ => ff_el) (fun _ _ _ _ => ff_el) (fun _ _ => ff_el) (fun _ _ _ => ff_el) (fun _ _ _ => ff_el) (fun _ _ _ => ff_el) (fun _ _ => ff_el) (fun _ _ => ff_el) f (fun _ _ _ => ff_el) (fun _ _ _ _ => ff_el) h
noncomputable def dBin (e : Expr) (k : Expr → Operator → Expr → Pos → Bool) : Bool := Expr.casesOn (motive_1 := fun _ => Bool) e (fun _ _ _ => false) (fun _ _ _ => false) k (fun _ _ _ => false) (fun _ _ _ _ => false) (fun _ _ _ _ => false) (fun _ _ _ => false) (fun _ _ _ => false) (fun _ _ _ _ => false) (fun _ _ _ _ => false) (fun _ _ _ _ _ => false) (fun _ _ _ _ => false) (fun _ _ => false) (fun _ _ => false) (fun _ _ => false) (fun _ _ _ _ => false) (fun _ _ _ _ => false) (fun _ _ _ _ => false) (fun _ _ => false) (fun _ _ _ => false) (fun _ _ _ => false) (fun _ _ _ => false) (fun _ _ => false) (fun _ _ => false) (fun _ _ => false) (fun _ _ _ => false) (fun _ _ _ _ => false)
theorem dBin_el {e : Expr} {k : Expr → Operator → Expr → Pos → Bool} {M : Expr → Prop} (h : dBin e k = true) (f : ∀ (x0 : Expr) (x1 : Operator) (x2 : Expr) (x3 : Pos), k x0 x1 x2 x3 = true → M (.BinOp x0 x1 x2 x3)) : M e := Expr.casesOn (motive_1 := fun e => dBin e k = true → M e) e (fun _ _ _ => ff_el) (fun _ _ _ => ff_el) f (fun _ _ _ => ff_el) (fun _ _ _ _ => ff_el) (fun _ _ _ _ => ff_el) (fun _ _ _ => ff_el) (fun _ _ _ => ff_el) (fun _ _ _ _ => ff_el) (fun _ _ _ _ => ff_el) (fun _ _ _ _ _ => ff_el) (fun _ _ _ _ => ff_el) (fun _ _ => ff_el) (fun _ _ => ff_el) (fun _ _ => ff_el) (fun _ _ _ _ => ff_el) (fun _ _ _ _ => ff_el) (fun _ _ _ _ => ff_el) (fun _ _ => ff_el) (fun _ _ _ => ff_el) (fun _ _ _ => ff_el) (fun _ _ _ => ff_el) (fun _ _ => ff_el) (fun _ _ => ff_el) (fun _ _ => ff_el) (fun _ _ _ => ff_el) (fun _ _ _ _ => ff_el) h
noncomputable def dMod (e : Operator) (k : Bool) : Bool := match e with | .Mod => k | _ => false
theorem dMod_el {e : Operator} {k : Bool} {M : Operator → Prop} (h : dMod e k = true) (f : k = true → M (.Mod)) : M e := by cases e <;> first | exact f h | exact Bool.noConfusion h
noncomputable def dPow (e : Operator) (k : Bool) : Bool := match e with | .Pow => k | _ => false
theorem dPow_el {e : Operator} {k : Bool} {M : Operator → Prop} (h : dPow e k = true) (f : k = true → M (.Pow)) : M e := by cases e <;> first | exact f h | exact Bool.noConfusion h
noncomputable def dCmp (e : Expr) (k : Expr → List CmpOp → List Expr → Pos → Bool) : Bool := Expr.casesOn (motive_1 := fun _ => Bool) e (fun _ _ _ => false) (fun _ _ _ => false) (fun _ _ _ _ => false) (fun _ _ _ => false) (fun _ _ _ _ => false) (fun _ _ _ _ => false) (fun _ _ _ => false) (fun _ _ _ => false) (fun _ _ _ _ => false) (fun _ _ _ _ => false) (fun _ _ _ _ _ => false) (fun _ _ _ _ => false) (fun _ _ => false) (fun _ _ => false) (fun _ _ => false) k (fun _ _ _ _ => false) (fun _ _ _ _ => false) (fun _ _ => false) (fun _ _ _ => false) (fun _ _ _ => false) (fun _ _ _ => false) (fun _ _ => false) (fun _ _ => false) (fun _ _ => false) (fun _ _ _ => false) (fun _ _ _ _ => false)
theorem dCmp_el {e : Expr} {k : Expr → List CmpOp → List Expr → Pos → Bool} {M : Expr → Prop} (h : dCmp e k = true) (f : ∀ (x0 : Expr) (x1 : List CmpOp) (x2 : List Expr) (x3 : Pos), k x0 x1 x2 x3 = true → M (.Compare x0 x1 x2 x3)) : M e := Expr.casesOn (motive_1 := fun e => dCmp e k = true → M e) e (fun _ _ _ => ff_el) (fun _ _ _ => ff_el) (fun _ _ _ _ => ff_el) (fun _ _ _ => ff_el) (fun _ _ _ _ => ff_el) (fun _ _ _ _ => ff_el) (fun _ _ _ => ff_el) (fun _ _ _ => ff_el) (fun _ _ _ _ => ff_el) (fun _ _ _ _ => ff_el) (fun _ _ _ _ _ => ff_el) (fun _ _ _ _ => ff_el) (fun _ _ => ff_el) (fun _ _ => ff_el) (fun _ _ => ff_el) f (fun _ _ _ _ => ff_el) (fun _ _ _ _ => ff_el) (fun _ _ => ff_el) (fun _ _ _ => ff_el) (fun _ _ _ => ff_el) (fun _ _ _ => ff_el) (fun _ _ => ff_el) (fun _ _ => ff_el) (fun _ _ => ff_el) (fun _ _ _ => ff_el) (fun _ _ _ _ => ff_el) h
noncomputable def dBool (e : Expr) (k : BoolOp → List Expr → Pos → Bool) : Bool := Expr.casesOn (motive_1 := fun _ => Bool) e k (fun _ _ _ => false) (fun _ _ _ _ => false) (fun _ _ _ => false) (fun _ _ _ _ => false) (fun _ _ _ _ => false) (fun _ _ _ => false) (fun _ _ _ => false) (fun _ _ _ _ => false) (fun _ _ _ _ => false) (fun _ _ _ _ _ => false) (fun _ _ _ _ => false) (fun _ _ => false) (fun _ _ => false) (fun _ _ => false) (fun _ _ _ _ => false) (fun _ _ _ _ => false) (fun _ _ _ _ => false) (fun _ _ => false) (fun _ _ _ => false) (fun _ _ _ => false) (fun _ _ _ => false) (fun _ _ => false) (fun _ _ => false) (fun _ _ => false) (fun _ _ _ => false) (fun _ _ _ _ => false)
theorem dBool_el {e : Expr} {k : BoolOp → List Expr → Pos → Bool} {M : Expr → Prop} (h : dBool e k = true) (f : ∀ (x0 : BoolOp) (x1 : List Expr) (x2 : Pos), k x0 x1 x2 = true → M (.BoolOp x0 x1 x2)) : M e := Expr.casesOn (motive_1 := fun e => dBool e k = true → M e) e f (fun _ _ _ => ff_el) (fun _ _ _ _ => ff_el) (fun _ _ _ => ff_el) (fun _ _ _ _ => ff_el) (fun _ _ _ _ => ff_el) (fun _ _ _ => ff_el) (fun _ _ _ => ff_el) (fun _ _ _ _ => ff_el) (fun _ _ _ _ => ff_el) (fun _ _ _ _ _ => ff_el) (fun _ _ _ _ => ff_el) (fun _ _ => ff_el) (fun _ _ => ff_el) (fun _ _ => ff_el) (fun _ _ _ _ => ff_el) (fun _ _ _ _ => ff_el) (fun _ _ _ _ => ff_el) (fun _ _ => ff_el) (fun _ _ _ => ff_el) (fun _ _ _ => ff_el) (fun _ _ _ => ff_el) (fun _ _ => ff_el) (fun _ _ => ff_el) (fun _ _ => ff_el) (fun _ _ _ => ff_el) (fun _ _ _ _ => ff_el) h
noncomputable def dIf (e : Expr) (k : Expr → Expr → Expr → Pos → Bool) : Bool := Expr.casesOn (motive_1 := fun _ => Bool) e (fun _ _ _ => false) (fun _ _ _ => false) (fun _ _ _ _ => false) (fun _ _ _ => false) (fun _ _ _ _ => false) k (fun _ _ _ => false) (fun _ _ _ => false) (fun _ _ _ _ => false) (fun _ _ _ _ => false) (fun _ _ _ _ _ => false) (fun _ _ _ _ => false) (fun _ _ => false) (fun _ _ => false) (fun _ _ => false) (fun _ _ _ _ => false) (fun _ _ _ _ => false) (fun _ _ _ _ => false) (fun _ _ => false) (fun _ _ _ => false) (fun _ _ _ => false) (fun _ _ _ => false) (fun _ _ => false) (fun _ _ => false) (fun _ _ => false) (fun _ _ _ => false) (fun _ _ _ _ => false)
theorem dIf_el {e : Expr} {k : Expr → Expr → Expr → Pos → Bool} {M : Expr → Prop} (h : dIf e k = true) (f : ∀ (x0 : Expr) (x1 : Expr) (x2 : Expr) (x3 : Pos), k x0 x1 x2 x3 = true → M (.IfExp x0 x1 x2 x3)) : M e := Expr.casesOn (motive_1 := fun e => dIf e k = true → M e) e (fun _ _ _ => ff_el) (fun _ _ _ => ff_el) (fun _ _ _ _ => ff_el) (fun _ _ _ => ff_el) (fun _ _ _ _ => ff_el) f (fun _ _ _ => ff_el) (fun _ _ _ => ff_el) (fun _ _ _ _ => ff_el) (fun _ _ _ _ => ff_el) (fun _ _ _ _ _ => ff_el) (fun _ _ _ _ => ff_el) (fun _ _ => ff_el) (fun _ _ => ff_el) (fun _ _ => ff_el) (fun _ _ _ _ => ff_el) (fun _ _ _ _ => ff_el) (fun _ _ _ _ => ff_el) (fun _ _ => ff_el) (fun _ _ _ => ff_el) (fun _ _ _ => ff_el) (fun _ _ _ => ff_el) (fun _ _ => ff_el) (fun _ _ => ff_el) (fun _ _ => ff_el) (fun _ _ _ => ff_el) (fun _ _ _ _ => ff_el) h
noncomputable def dCall (e : Expr) (k : Expr → List Expr → List Keyword → Pos → Bool) : Bool := Expr.casesOn (motive_1 := fun _ => Bool) e (fun _ _ _ => false) (fun _ _ _ => false) (fun _ _ _ _ => false) (fun _ _ _ => false) (fun _ _ _ _ => false) (fun _ _ _ _ => false) (fun _ _ _ => false) (fun _ _ _ => false) (fun _ _ _ _ => false) (fun _ _ _ _ => false) (fun _ _ _ _ _ => false) (fun _ _ _ _ => false) (fun _ _ => false) (fun _ _ => false) (fun _ _ => false) (fun _ _ _ _ => false) k (fun _ _ _ _ => false) (fun _ _ => false) (fun _ _ _ => false) (fun _ _ _ => false) (fun _ _ _ => false) (fun _ _ => false) (fun _ _ => false) (fun _ _ => false) (fun _ _ _ => false) (fun _ _ _ _ => false)
theorem dCall_el {e : Expr} {k : Expr → List Expr → List Keyword → Pos → Bool} {M : Expr → Prop} (h : dCall e k = true) (f : ∀ (x0 : Expr) (x1 : List Expr) (x2 : List Keyword) (x3 : Pos), k x0 x1 x2 x3 = true → M (.Call x0 x1 x2 x3)) : M e := Expr.casesOn (motive_1 := fun e => dCall e k = true → M e) e (fun _ _ _ => ff_el) (fun _ _ _ => ff_el) (fun _ _ _ _ => ff_el) (fun _ _ _ => ff_el) (fun _ _ _ _ => ff_el) (fun _ _ _ _ => ff_el) (fun _ _ _ => ff_el) (fun _ _ _ => ff_el) (fun _ _ _ _ => ff_el) (fun _ _ _ _ => ff_el) (fun _ _ _ _ _ => ff_el) (fun _ _ _ _ => ff_el) (fun _ _ => ff_el) (fun _ _ => ff_el) (fun _ _ => ff_el) (fun _ _ _ _ => ff_el) f (fun _ _ _ _ => ff_el) (fun _ _ => ff_el) (fun _ _ _ => ff_el) (fun _ _ _ => ff_el) (fun _ _ _ => ff_el) (fun _ _ => ff_el) (fun _ _ => ff_el) (fun _ _ => ff_el) (fun _ _ _ => ff_el) (fun _ _ _ _ => ff_el) h
noncomputable def dAttr (e : Expr) (k : Expr → Str → Pos → Bool) : Bool := Expr.casesOn (motive_1 := fun _ => Bool) e (fun _ _ _ => false) (fun _ _ _ => false) (fun _ _ _ _ => false) (fun _ _ _ => false) (fun _ _ _ _ => false) (fun _ _ _ _ => false) (fun _ _ _ => false) (fun _ _ _ => false) (fun _ _ _ _ => false) (fun _ _ _ _ => false) (fun _ _ _ _ _ => false) (fun _ _ _ _ => false) (fun _ _ => false) (fun _ _ => false) (fun _ _ => false) (fun _ _ _ _ => false) (fun _ _ _ _ => false) (fun _ _ _ _ => false) (fun _ _ => false) (fun _ _ _ => false) k (fun _ _ _ => false) (fun _ _ => false) (fun _ _ => false) (fun _ _ => false) (fun _ _ _ => false) (fun _ _ _ _ => false)
theorem dAttr_el {e : Expr} {k : Expr → Str → Pos → Bool} {M : Expr → Prop} (h : dAttr e k = true) (f : ∀ (x0 : Expr) (x1 : Str) (x2 : Pos), k x0 x1 x2 = true → M (.Attribute x0 x1 x2)) : M e := Expr.casesOn (motive_1 := fun e => dAttr e k = true → M e) e (fun _ _ _ => ff_el) (fun _ _ _ => ff_el) (fun _ _ _ _ => ff_el) (fun _ _ _ => ff_el) (fun _ _ _ _ => ff_el) (fun _ _ _ _ => ff_el) (fun _ _ _ => ff_el) (fun _ _ _ => ff_el) (fun _ _ _ _ => ff_el) (fun _ _ _ _ => ff_el) (fun _ _ _ _ _ => ff_el) (fun _ _ _ _ => ff_el) (fun _ _ => ff_el) (fun _ _ => ff_el) (fun _ _ => ff_el) (fun _ _ _ _ => ff_el) (fun _ _ _ _ => ff_el) (fun _ _ _ _ => ff_el) (fun _ _ => ff_el) (fun _ _ _ => ff_el) f (fun _ _ _ => ff_el) (fun _ _ => ff_el) (fun _ _ => ff_el) (fun _ _ => ff_el) (fun _ _ _ => ff_el) (fun _ _ _ _ => ff_el) h
noncomputable def dComp (e : Expr) (k : Expr → List Comprehension → Scope → Pos → Bool) : Bool := Expr.casesOn (motive_1 := fun _ => Bool) e (fun _ _ _ => false) (fun _ _ _ => false) (fun _ _ _ _ => false) (fun _ _ _ => false) (fun _ _ _ _ => false) (fun _ _ _ _ => false) (fun _ _ _ => false) (fun _ _ _ => false) k (fun _ _ _ _ => false) (fun _ _ _ _ _ => false) (fun _ _ _ _ => false) (fun _ _ => false) (fun _ _ => false) (fun _ _ => false) (fun _ _ _ _ => false) (fun _ _ _ _ => false) (fun _ _ _ _ => false) (fun _ _ => false) (fun _ _ _ => false) (fun _ _ _ => false) (fun _ _ _ => false) (fun _ _ => false) (fun _ _ => false) (fun _ _ => false) (fun _ _ _ => false) (fun _ _ _ _ => false)
theorem dComp_el {e : Expr} {k : Expr → List Comprehension → Scope → Pos → Bool} {M : Expr → Prop} (h : dComp e k = true) (f : ∀ (x0 : Expr) (x1 : List Comprehension) (x2 : Scope) (x3 : Pos), k x0 x1 x2 x3 = true → M (.ListComp x0 x1 x2 x3)) : M e := Expr.casesOn (motive_1 := fun e => dComp e k = true → M e) e (fun _ _ _ => ff_el) (fun _ _ _ => ff_el) (fun _ _ _ _ => ff_el) (fun _ _ _ => ff_el) (fun _ _ _ _ => ff_el) (fun _ _ _ _ => ff_el) (fun _ _ _ => ff_el) (fun _ _ _ => ff_el) f (fun _ _ _ _ => ff_el) (fun _ _ _ _ _ => ff_el) (fun _ _ _ _ => ff_el) (fun _ _ => ff_el) (fun _ _ => ff_el) (fun _ _ => ff_el) (fun _ _ _ _ => ff_el) (fun _ _ _ _ => ff_el) (fun _ _ _ _ => ff_el) (fun _ _ => ff_el) (fun _ _ _ => ff_el) (fun _ _ _ => ff_el) (fun _ _ _ => ff_el) (fun _ _ => ff_el) (fun _ _ => ff_el) (fun _ _ => ff_el) (fun _ _ _ => ff_el) (fun _ _ _ _ => ff_el) h
noncomputable def dSub (e : Expr) (k : Expr → Expr → Pos → Bool) : Bool := Expr.casesOn (motive_1 := fun _ => Bool) e (fun _ _ _ => false) (fun _ _ _ => false) (fun _ _ _ _ => false) (fun _ _ _ => false) (fun _ _ _ _ => false) (fun _ _ _ _ => false) (fun _ _ _ => false) (fun _ _ _ => false) (fun _ _ _ _ => false) (fun _ _ _ _ => false) (fun _ _ _ _ _ => false) (fun _ _ _ _ => false) (fun _ _ => false) (fun _ _ => false) (fun _ _ => false) (fun _ _ _ _ => false) (fun _ _ _ _ => false) (fun _ _ _ _ => false) (fun _ _ => false) (fun _ _ _ => false) (fun _ _ _ => false) k (fun _ _ => false) (fun _ _ => false) (fun _ _ => false) (fun _ _ _ => false) (fun _ _ _ _ => false)
theorem dSub_el {e : Expr} {k : Expr → Expr → Pos → Bool} {M : Expr → Prop} (h : dSub e k = true) (f : ∀ (x0 : Expr) (x1 : Expr) (x2 : Pos), k x0 x1 x2 = true → M (.Subscript x0 x1 x2)) : M e := Expr.casesOn (motive_1 := fun e => dSub e k = true → M e) e (fun _ _ _ => ff_el) (fun _ _ _ => ff_el) (fun _ _ _ _ => ff_el) (fun _ _ _ => ff_el) (fun _ _ _ _ => ff_el) (fun _ _ _ _ => ff_el) (fun _ _ _ => ff_el) (fun _ _ _ => ff_el) (fun _ _ _ _ => ff_el) (fun _ _ _ _ => ff_el) (fun _ _ _ _ _ => ff_el) (fun _ _ _ _ => ff_el) (fun _ _ => ff_el) (fun _ _ => ff_el) (fun _ _ => ff_el) (fun _ _ _ _ => ff_el) (fun _ _ _ _ => ff_el) (fun _ _ _ _ => ff_el) (fun _ _ => ff_el) (fun _ _ _ => ff_el) (fun _ _ _ => ff_el) f (fun _ _ => ff_el) (fun _ _ => ff_el) (fun _ _ => ff_el) (fun _ _ _ => ff_el) (fun _ _ _ _ => ff_el) h
noncomputable def dSlice (e : Expr) (k : Option Expr → Option Expr → Option Expr → Pos → Bool) : Bool := Expr.casesOn (motive_1 := fun _ => Bool) e (fun _ _ _ => false) (fun _ _ _ => false) (fun _ _ _ _ => false) (fun _ _ _ => false) (fun _ _ _ _ => false) (fun _ _ _ _ => false) (fun _ _ _ => false) (fun _ _ _ => false) (fun _ _ _ _ => false) (fun _ _ _ _ => false) (fun _ _ _ _ _ => false) (fun _ _ _ _ => false) (fun _ _ => false) (fun _ _ => false) (fun _ _ => false) (fun _ _ _ _ => false) (fun _ _ _ _ => false) (fun _ _ _ _ => false) (fun _ _ => false) (fun _ _ _ => false) (fun _ _ _ => false) (fun _ _ _ => false) (fun _ _ => false) (fun _ _ => false) (fun _ _ => false) (fun _ _ _ => false) k
theorem dSlice_el {e : Expr} {k : Option Expr → Option Expr → Option Expr → Pos → Bool} {M : Expr → Prop} (h : dSlice e k = true) (f : ∀ (x0 : Option Expr) (x1 : Option Expr) (x2 : Option Expr) (x3 : Pos), k x0 x1 x2 x3 = true → M (.Slice x0 x1 x2 x3)) : M e := Expr.casesOn (motive_1 := fun e => dSlice e k = true → M e) e (fun _ _ _ => ff_el) (fun _ _ _ => ff_el) (fun _ _ _ _ => ff_el) (fun _ _ _ => ff_el) (fun _ _ _ _ => ff_el) (fun _ _ _ _ => ff_el) (fun _ _ _ => ff_el) (fun _ _ _ => ff_el) (fun _ _ _ _ => ff_el) (fun _ _ _ _ => ff_el) (fun _ _ _ _ _ => ff_el) (fun _ _ _ _ => ff_el) (fun _ _ => ff_el) (fun _ _ => ff_el) (fun _ _ => ff_el) (fun _ _ _ _ => ff_el) (fun _ _ _ _ => ff_el) (fun _ _ _ _ => ff_el) (fun _ _ => ff_el) (fun _ _ _ => ff_el) (fun _ _ _ => ff_el) (fun _ _ _ => ff_el) (fun _ _ => ff_el) (fun _ _ => ff_el) (fun _ _ => ff_el) (fun _ _ _ => ff_el) f h
noncomputable def dNil {α : Type} (e : List α) (k : Bool) : Bool := match e with | [] => k | _ => false
theorem dNil_el {α : Type} {e : List α} {k : Bool} {M : List α → Prop} (h : dNil e k = true) (f : k = true → M ([])) : M e := by cases e <;> first | exact f h | exact Bool.noConfusion h
noncomputable def d1 {α : Type} (e : List α) (k : α → Bool) : Bool := match e with | [x0] => k x0 | _ => false
theorem d1_el {α : Type} {e : List α} {k : α → Bool} {M : List α → Prop} (h : d1 e k = true) (f : ∀ (x0 : α), k x0 = true → M ([x0])) : M e := by
  cases e with
  | nil => exact Bool.noConfusion h
  | cons x r => cases r with
    | nil => exact f x h
    | cons _ _ => exact Bool.noConfusion h
noncomputable def d2 {α : Type} (e : List α) (k : α → α → Bool) : Bool := match e with | [x0, x1] => k x0 x1 | _ => false
theorem d2_el {α : Type} {e : List α} {k : α → α → Bool} {M : List α → Prop} (h : d2 e k = true) (f : ∀ (x0 : α) (x1 : α), k x0 x1 = true → M ([x0, x1])) : M e := by
  cases e with
  | nil => exact Bool.noConfusion h
  | cons x r => cases r with
    | nil => exact Bool.noConfusion h
    | cons y r => cases r with
      | nil => exact f x y h
      | cons _ _ => exact Bool.noConfusion h
noncomputable def dName (e : Expr) (k : Str → Pos → Bool) : Bool := Expr.casesOn (motive_1 := fun _ => Bool) e (fun _ _ _ => false) (fun _ _ _ => false) (fun _ _ _ _ => false) (fun _ _ _ => false) (fun _ _ _ _ => false) (fun _ _ _ _ => false) (fun _ _ _ => false) (fun _ _ _ => false) (fun _ _ _ _ => false) (fun _ _ _ _ => false) (fun _ _ _ _ _ => false) (fun _ _ _ _ => false) (fun _ _ => false) (fun _ _ => false) (fun _ _ => false) (fun _ _ _ _ => false) (fun _ _ _ _ => false) (fun _ _ _ _ => false) (fun _ _ => false) (fun _ _ _ => false) (fun _ _ _ => false) (fun _ _ _ => false) (fun _ _ => false) k (fun _ _ => false) (fun _ _ _ => false) (fun _ _ _ _ => false)
theorem dName_el {e : Expr} {k : Str → Pos → Bool} {M : Expr → Prop} (h : dName e k = true) (f : ∀ (x0 : Str) (x1 : Pos), k x0 x1 = true → M (.Name x0 x1)) : M e := Expr.casesOn (motive_1 := fun e => dName e k = true → M e) e (fun _ _ _ => ff_el) (fun _ _ _ => ff_el) (fun _ _ _ _ => ff_el) (fun _ _ _ => ff_el) (fun _ _ _ _ => ff_el) (fun _ _ _ _ => ff_el) (fun _ _ _ => ff_el) (fun _ _ _ => ff_el) (fun _ _ _ _ => ff_el) (fun _ _ _ _ => ff_el) (fun _ _ _ _ _ => ff_el) (fun _ _ _ _ => ff_el) (fun _ _ => ff_el) (fun _ _ => ff_el) (fun _ _ => ff_el) (fun _ _ _ _ => ff_el) (fun _ _ _ _ => ff_el) (fun _ _ _ _ => ff_el) (fun _ _ => ff_el) (fun _ _ _ => ff_el) (fun _ _ _ => ff_el) (fun _ _ _ => ff_el) (fun _ _ => ff_el) f (fun _ _ => ff_el) (fun _ _ _ => ff_el) (fun _ _ _ _ => ff_el) h
noncomputable def d4 {α : Type} (e : List α) (k : α → α → α → α → Bool) : Bool := match e with | [x0, x1, x2, x3] => k x0 x1 x2 x3 | _ => false
theorem d4_el {α : Type} {e : List α} {k : α → α → α → α → Bool} {M : List α → Prop} (h : d4 e k = true) (f : ∀ (x0 : α) (x1 : α) (x2 : α) (x3 : α), k x0 x1 x2 x3 = true → M ([x0, x1, x2, x3])) : M e := by
  match e, h with
  | [x, y, z, w], h => exact f x y z w h
  | [], h => exact Bool.noConfusion h
  | [_], h => exact Bool.noConfusion h
  | [_, _], h => exact Bool.noConfusion h
  | [_, _, _], h => exact Bool.noConfusion h
  | _ :: _ :: _ :: _ :: _ :: _, h => exact Bool.noConfusion h
noncomputable def dNone {α : Type} (e : Option α) (k : Bool) : Bool := match e with | .none => k | _ => false
theorem dNone_el {α : Type} {e : Option α} {k : Bool} {M : Option α → Prop} (h : dNone e k = true) (f : k = true → M (.none)) : M e := by cases e <;> first | exact f h | exact Bool.noConfusion h
noncomputable def dSome {α : Type} (e : Option α) (k : α → Bool) : Bool := match e with | .some x0 => k x0 | _ => false
theorem dSome_el {α : Type} {e : Option α} {k : α → Bool} {M : Option α → Prop} (h : dSome e k = true) (f : ∀ (x0 : α), k x0 = true → M (.some x0)) : M e := by cases e <;> first | exact f _ h | exact Bool.noConfusion h
noncomputable def dGen0 (e : Comprehension) (k : Expr → Expr → List Expr → Int → Bool) : Bool := match e with | .mk x0 x1 x2 x3 => k x0 x1 x2 x3
theorem dGen0_el {e : Comprehension} {k : Expr → Expr → List Expr → Int → Bool} {M : Comprehension → Prop} (h : dGen0 e k = true) (f : ∀ (x0 : Expr) (x1 : Expr) (x2 : List Expr) (x3 : Int), k x0 x1 x2 x3 = true → M (.mk x0 x1 x2 x3)) : M e := by cases e <;> first | exact f _ _ _ _ h | exact Bool.noConfusion h
noncomputable def dI0 (e : Int) (k : Nat → Bool) : Bool := match e with | .ofNat x0 => k x0 | _ => false
theorem dI0_el {e : Int} {k : Nat → Bool} {M : Int → Prop} (h : dI0 e k = true) (f : ∀ (x0 : Nat), k x0 = true → M (.ofNat x0)) : M e := by cases e <;> first | exact f _ h | exact Bool.noConfusion h
noncomputable def dN0 (e : Nat) (k : Bool) : Bool := match e with | .zero => k | _ => false
theorem dN0_el {e : Nat} {k : Bool} {M : Nat → Prop} (h : dN0 e k = true) (f : k = true → M (.zero)) : M e := by cases e <;> first | exact f h | exact Bool.noConfusion h
noncomputable def dAssign (e : Stmt) (k : List Expr → Expr → Pos → Bool) : Bool := Stmt.casesOn (motive_2 := fun _ => Bool) e (fun _ _ _ _ _ _ _ _ _ _ => false) (fun _ _ _ _ _ _ _ _ _ _ => false) (fun _ _ _ _ _ _ _ _ _ _ _ => false) (fun _ _ => false) (fun _ _ => false) k (fun _ _ _ _ _ _ _ => false) (fun _ _ _ _ => false) (fun _ _ _ _ _ => false) (fun _ _ _ _ _ => false) (fun _ _ _ _ _ => false) (fun _ _ _ _ => false) (fun _ _ _ _ => false) (fun _ _ _ => false) (fun _ _ _ => false) (fun _ _ _ => false) (fun _ _ _ => false) (fun _ _ _ _ _ => false) (fun _ _ _ _ _ => false) (fun _ _ _ => false) (fun _ _ => false) (fun _ _ _ _ => false) (fun _ _ => false) (fun _ _ => false) (fun _ _ => false) (fun _ => false) (fun _ => false) (fun _ => false)
theorem dAssign_el {e : Stmt} {k : List Expr → Expr → Pos → Bool} {M : Stmt → Prop} (h : dAssign e k = true) (f : ∀ (x0 : List Expr) (x1 : Expr) (x2 : Pos), k x0 x1 x2 = true → M (.Assign x0 x1 x2)) : M e := Stmt.casesOn (motive_2 := fun e => dAssign e k = true → M e) e (fun _ _ _ _ _ _ _ _ _ _ => ff_el) (fun _ _ _ _ _ _ _ _ _ _ => ff_el) (fun _ _ _ _ _ _ _ _ _ _ _ => ff_el) (fun _ _ => ff_el) (fun _ _ => ff_el) f (fun _ _ _ _ _ _ _ => ff_el) (fun _ _ _ _ => ff_el) (fun _ _ _ _ _ => ff_el) (fun _ _ _ _ _ => ff_el) (fun _ _ _ _ _ => ff_el) (fun _ _ _ _ => ff_el) (fun _ _ _ _ => ff_el) (fun _ _ _ => ff_el) (fun _ _ _ => ff_el) (fun _ _ _ => ff_el) (fun _ _ _ => ff_el) (fun _ _ _ _ _ => ff_el) (fun _ _ _ _ _ => ff_el) (fun _ _ _ => ff_el) (fun _ _ => ff_el) (fun _ _ _ _ => ff_el) (fun _ _ => ff_el) (fun _ _ => ff_el) (fun _ _ => ff_el) (fun _ => ff_el) (fun _ => ff_el) (fun _ => ff_el) h
noncomputable def dAug (e : Stmt) (k : Expr → Operator → Expr → Pos → Bool) : Bool := Stmt.casesOn (motive_2 := fun _ => Bool) e (fun _ _ _ _ _ _ _ _ _ _ => false) (fun _ _ _ _ _ _ _ _ _ _ => false) (fun _ _ _ _ _ _ _ _ _ _ _ => false) (fun _ _ => false) (fun _ _ => false) (fun _ _ _ => false) (fun _ _ _ _ _ _ _ => false) k (fun _ _ _ _ _ => false) (fun _ _ _ _ _ => false) (fun _ _ _ _ _ => false) (fun _ _ _ _ => false) (fun _ _ _ _ => false) (fun _ _ _ => false) (fun _ _ _ => false) (fun _ _ _ => false) (fun _ _ _ => false) (fun _ _ _ _ _ => false) (fun _ _ _ _ _ => false) (fun _ _ _ => false) (fun _ _ => false) (fun _ _ _ _ => false) (fun _ _ => false) (fun _ _ => false) (fun _ _ => false) (fun _ => false) (fun _ => false) (fun _ => false)
theorem dAug_el {e : Stmt} {k : Expr → Operator → Expr → Pos → Bool} {M : Stmt → Prop} (h : dAug e k = true) (f : ∀ (x0 : Expr) (x1 : Operator) (x2 : Expr) (x3 : Pos), k x0 x1 x2 x3 = true → M (.AugAssign x0 x1 x2 x3)) : M e := Stmt.casesOn (motive_2 := fun e => dAug e k = true → M e) e (fun _ _ _ _ _ _ _ _ _ _ => ff_el) (fun _ _ _ _ _ _ _ _ _ _ => ff_el) (fun _ _ _ _ _ _ _ _ _ _ _ => ff_el) (fun _ _ => ff_el) (fun _ _ => ff_el) (fun _ _ _ => ff_el) (fun _ _ _ _ _ _ _ => ff_el) f (fun _ _ _ _ _ => ff_el) (fun _ _ _ _ _ => ff_el) (fun _ _ _ _ _ => ff_el) (fun _ _ _ _ => ff_el) (fun _ _ _ _ => ff_el) (fun _ _ _ => ff_el) (fun _ _ _ => ff_el) (fun _ _ _ => ff_el) (fun _ _ _ => ff_el) (fun _ _ _ _ _ => ff_el) (fun _ _ _ _ _ => ff_el) (fun _ _ _ => ff_el) (fun _ _ => ff_el) (fun _ _ _ _ => ff_el) (fun _ _ => ff_el) (fun _ _ => ff_el) (fun _ _ => ff_el) (fun _ => ff_el) (fun _ => ff_el) (fun _ => ff_el) h
noncomputable def dExprS (e : Stmt) (k : Expr → Pos → Bool) : Bool := Stmt.casesOn (motive_2 := fun _ => Bool) e (fun _ _ _ _ _ _ _ _ _ _ => false) (fun _ _ _ _ _ _ _ _ _ _ => false) (fun _ _ _ _ _ _ _ _ _ _ _ => false) (fun _ _ => false) (fun _ _ => false) (fun _ _ _ => false) (fun _ _ _ _ _ _ _ => false) (fun _ _ _ _ => false) (fun _ _ _ _ _ => false) (fun _ _ _ _ _ => false) (fun _ _ _ _ _ => false) (fun _ _ _ _ => false) (fun _ _ _ _ => false) (fun _ _ _ => false) (fun _ _ _ => false) (fun _ _ _ => false) (fun _ _ _ => false) (fun _ _ _ _ _ => false) (fun _ _ _ _ _ => false) (fun _ _ _ => false) (fun _ _ => false) (fun _ _ _ _ => false) (fun _ _ => false) (fun _ _ => false) k (fun _ => false) (fun _ => false) (fun _ => false)
theorem dExprS_el {e : Stmt} {k : Expr → Pos → Bool} {M : Stmt → Prop} (h : dExprS e k = true) (f : ∀ (x0 : Expr) (x1 : Pos), k x0 x1 = true → M (.Expr x0 x1)) : M e := Stmt.casesOn (motive_2 := fun e => dExprS e k = true → M e) e (fun _ _ _ _ _ _ _ _ _ _ => ff_el) (fun _ _ _ _ _ _ _ _ _ _ => ff_el) (fun _ _ _ _ _ _ _ _ _ _ _ => ff_el) (fun _ _ => ff_el) (fun _ _ => ff_el) (fun _ _ _ => ff_el) (fun _ _ _ _ _ _ _ => ff_el) (fun _ _ _ _ => ff_el) (fun _ _ _ _ _ => ff_el) (fun _ _ _ _ _ => ff_el) (fun _ _ _ _ _ => ff_el) (fun _ _ _ _ => ff_el) (fun _ _ _ _ => ff_el) (fun _ _ _ => ff_el) (fun _ _ _ => ff_el) (fun _ _ _ => ff_el) (fun _ _ _ => ff_el) (fun _ _ _ _ _ => ff_el) (fun _ _ _ _ _ => ff_el) (fun _ _ _ => ff_el) (fun _ _ => ff_el) (fun _ _ _ _ => ff_el) (fun _ _ => ff_el) (fun _ _ => ff_el) f (fun _ => ff_el) (fun _ => ff_el) (fun _ => ff_el) h
noncomputable def dIfS (e : Stmt) (k : Expr → List Stmt → List Stmt → Pos → Bool) : Bool := Stmt.casesOn (motive_2 := fun _ => Bool) e (fun _ _ _ _ _ _ _ _ _ _ => false) (fun _ _ _ _ _ _ _ _ _ _ => false) (fun _ _ _ _ _ _ _ _ _ _ _ => false) (fun _ _ => false) (fun _ _ => false) (fun _ _ _ => false) (fun _ _ _ _ _ _ _ => false) (fun _ _ _ _ => false) (fun _ _ _ _ _ => false) (fun _ _ _ _ _ => false) (fun _ _ _ _ _ => false) (fun _ _ _ _ => false) k (fun _ _ _ => false) (fun _ _ _ => false) (fun _ _ _ => false) (fun _ _ _ => false) (fun _ _ _ _ _ => false) (fun _ _ _ _ _ => false) (fun _ _ _ => false) (fun _ _ => false) (fun _ _ _ _ => false) (fun _ _ => false) (fun _ _ => false) (fun _ _ => false) (fun _ => false) (fun _ => false) (fun _ => false)
theorem dIfS_el {e : Stmt} {k : Expr → List Stmt → List Stmt → Pos → Bool} {M : Stmt → Prop} (h : dIfS e k = true) (f : ∀ (x0 : Expr) (x1 : List Stmt) (x2 : List Stmt) (x3 : Pos), k x0 x1 x2 x3 = true → M (.If x0 x1 x2 x3)) : M e := Stmt.casesOn (motive_2 := fun e => dIfS e k = true → M e) e (fun _ _ _ _ _ _ _ _ _ _ => ff_el) (fun _ _ _ _ _ _ _ _ _ _ => ff_el) (fun _ _ _ _ _ _ _ _ _ _ _ => ff_el) (fun _ _ => ff_el) (fun _ _ => ff_el) (fun _ _ _ => ff_el) (fun _ _ _ _ _ _ _ => ff_el) (fun _ _ _ _ => ff_el) (fun _ _ _ _ _ => ff_el) (fun _ _ _ _ _ => ff_el) (fun _ _ _ _ _ => ff_el) (fun _ _ _ _ => ff_el) f (fun _ _ _ => ff_el) (fun _ _ _ => ff_el) (fun _ _ _ => ff_el) (fun _ _ _ => ff_el) (fun _ _ _ _ _ => ff_el) (fun _ _ _ _ _ => ff_el) (fun _ _ _ => ff_el) (fun _ _ => ff_el) (fun _ _ _ _ => ff_el) (fun _ _ => ff_el) (fun _ _ => ff_el) (fun _ _ => ff_el) (fun _ => ff_el) (fun _ => ff_el) (fun _ => ff_el) h
noncomputable def dWhile (e : Stmt) (k : Expr → List Stmt → List Stmt → Pos → Bool) : Bool := Stmt.casesOn (motive_2 := fun _ => Bool) e (fun _ _ _ _ _ _ _ _ _ _ => false) (fun _ _ _ _ _ _ _ _ _ _ => false) (fun _ _ _ _ _ _ _ _ _ _ _ => false) (fun _ _ => false) (fun _ _ => false) (fun _ _ _ => false) (fun _ _ _ _ _ _ _ => false) (fun _ _ _ _ => false) (fun _ _ _ _ _ => false) (fun _ _ _ _ _ => false) (fun _ _ _ _ _ => false) k (fun _ _ _ _ => false) (fun _ _ _ => false) (fun _ _ _ => false) (fun _ _ _ => false) (fun _ _ _ => false) (fun _ _ _ _ _ => false) (fun _ _ _ _ _ => false) (fun _ _ _ => false) (fun _ _ => false) (fun _ _ _ _ => false) (fun _ _ => false) (fun _ _ => false) (fun _ _ => false) (fun _ => false) (fun _ => false) (fun _ => false)
theorem dWhile_el {e : Stmt} {k : Expr → List Stmt → List Stmt → Pos → Bool} {M : Stmt → Prop} (h : dWhile e k = true) (f : ∀ (x0 : Expr) (x1 : List Stmt) (x2 : List Stmt) (x3 : Pos), k x0 x1 x2 x3 = true → M (.While x0 x1 x2 x3)) : M e := Stmt.casesOn (motive_2 := fun e => dWhile e k = true → M e) e (fun _ _ _ _ _ _ _ _ _ _ => ff_el) (fun _ _ _ _ _ _ _ _ _ _ => ff_el) (fun _ _ _ _ _ _ _ _ _ _ _ => ff_el) (fun _ _ => ff_el) (fun _ _ => ff_el) (fun _ _ _ => ff_el) (fun _ _ _ _ _ _ _ => ff_el) (fun _ _ _ _ => ff_el) (fun _ _ _ _ _ => ff_el) (fun _ _ _ _ _ => ff_el) (fun _ _ _ _ _ => ff_el) f (fun _ _ _ _ => ff_el) (fun _ _ _ => ff_el) (fun _ _ _ => ff_el) (fun _ _ _ => ff_el) (fun _ _ _ => ff_el) (fun _ _ _ _ _ => ff_el) (fun _ _ _ _ _ => ff_el) (fun _ _ _ => ff_el) (fun _ _ => ff_el) (fun _ _ _ _ => ff_el) (fun _ _ => ff_el) (fun _ _ => ff_el) (fun _ _ => ff_el) (fun _ => ff_el) (fun _ => ff_el) (fun _ => ff_el) h
noncomputable def dFor (e : Stmt) (k : Expr → Expr → List Stmt → List Stmt → Pos → Bool) : Bool := Stmt.casesOn (motive_2 := fun _ => Bool) e (fun _ _ _ _ _ _ _ _ _ _ => false) (fun _ _ _ _ _ _ _ _ _ _ => false) (fun _ _ _ _ _ _ _ _ _ _ _ => false) (fun _ _ => false) (fun _ _ => false) (fun _ _ _ => false) (fun _ _ _ _ _ _ _ => false) (fun _ _ _ _ => false) (fun _ _ _ _ _ => false) k (fun _ _ _ _ _ => false) (fun _ _ _ _ => false) (fun _ _ _ _ => false) (fun _ _ _ => false) (fun _ _ _ => false) (fun _ _ _ => false) (fun _ _ _ => false) (fun _ _ _ _ _ => false) (fun _ _ _ _ _ => false) (fun _ _ _ => false) (fun _ _ => false) (fun _ _ _ _ => false) (fun _ _ => false) (fun _ _ => false) (fun _ _ => false) (fun _ => false) (fun _ => false) (fun _ => false)
theorem dFor_el {e : Stmt} {k : Expr → Expr → List Stmt → List Stmt → Pos → Bool} {M : Stmt → Prop} (h : dFor e k = true) (f : ∀ (x0 : Expr) (x1 : Expr) (x2 : List Stmt) (x3 : List Stmt) (x4 : Pos), k x0 x1 x2 x3 x4 = true → M (.For x0 x1 x2 x3 x4)) : M e := Stmt.casesOn (motive_2 := fun e => dFor e k = true → M e) e (fun _ _ _ _ _ _ _ _ _ _ => ff_el) (fun _ _ _ _ _ _ _ _ _ _ => ff_el) (fun _ _ _ _ _ _ _ _ _ _ _ => ff_el) (fun _ _ => ff_el) (fun _ _ => ff_el) (fun _ _ _ => ff_el) (fun _ _ _ _ _ _ _ => ff_el) (fun _ _ _ _ => ff_el) (fun _ _ _ _ _ => ff_el) f (fun _ _ _ _ _ => ff_el) (fun _ _ _ _ => ff_el) (fun _ _ _ _ => ff_el) (fun _ _ _ => ff_el) (fun _ _ _ => ff_el) (fun _ _ _ => ff_el) (fun _ _ _ => ff_el) (fun _ _ _ _ _ => ff_el) (fun _ _ _ _ _ => ff_el) (fun _ _ _ => ff_el) (fun _ _ => ff_el) (fun _ _ _ _ => ff_el) (fun _ _ => ff_el) (fun _ _ => ff_el) (fun _ _ => ff_el) (fun _ => ff_el) (fun _ => ff_el) (fun _ => ff_el) h
noncomputable def dRet (e : Stmt) (k : Option Expr → Pos → Bool) : Bool := Stmt.casesOn (motive_2 := fun _ => Bool) e (fun _ _ _ _ _ _ _ _ _ _ => false) (fun _ _ _ _ _ _ _ _ _ _ => false) (fun _ _ _ _ _ _ _ _ _ _ _ => false) k (fun _ _ => false) (fun _ _ _ => false) (fun _ _ _ _ _ _ _ => false) (fun _ _ _ _ => false) (fun _ _ _ _ _ => false) (fun _ _ _ _ _ => false) (fun _ _ _ _ _ => false) (fun _ _ _ _ => false) (fun _ _ _ _ => false) (fun _ _ _ => false) (fun _ _ _ => false) (fun _ _ _ => false) (fun _ _ _ => false) (fun _ _ _ _ _ => false) (fun _ _ _ _ _ => false) (fun _ _ _ => false) (fun _ _ => false) (fun _ _ _ _ => false) (fun _ _ => false) (fun _ _ => false) (fun _ _ => false) (fun _ => false) (fun _ => false) (fun _ => false)
theorem dRet_el {e : Stmt} {k : Option Expr → Pos → Bool} {M : Stmt → Prop} (h : dRet e k = true) (f : ∀ (x0 : Option Expr) (x1 : Pos), k x0 x1 = true → M (.Return x0 x1)) : M e := Stmt.casesOn (motive_2 := fun e => dRet e k = true → M e) e (fun _ _ _ _ _ _ _ _ _ _ => ff_el) (fun _ _ _ _ _ _ _ _ _ _ => ff_el) (fun _ _ _ _ _ _ _ _ _ _ _ => ff_el) f (fun _ _ => ff_el) (fun _ _ _ => ff_el) (fun _ _ _ _ _ _ _ => ff_el) (fun _ _ _ _ => ff_el) (fun _ _ _ _ _ => ff_el) (fun _ _ _ _ _ => ff_el) (fun _ _ _ _ _ => ff_el) (fun _ _ _ _ => ff_el) (fun _ _ _ _ => ff_el) (fun _ _ _ => ff_el) (fun _ _ _ => ff_el) (fun _ _ _ => ff_el) (fun _ _ _ => ff_el) (fun _ _ _ _ _ => ff_el) (fun _ _ _ _ _ => ff_el) (fun _ _ _ => ff_el) (fun _ _ => ff_el) (fun _ _ _ _ => ff_el) (fun _ _ => ff_el) (fun _ _ => ff_el) (fun _ _ => ff_el) (fun _ => ff_el) (fun _ => ff_el) (fun _ => ff_el) h
noncomputable def dBreak (e : Stmt) (k : Pos → Bool) : Bool := Stmt.casesOn (motive_2 := fun _ => Bool) e (fun _ _ _ _ _ _ _ _ _ _ => false) (fun _ _ _ _ _ _ _ _ _ _ => false) (fun _ _ _ _ _ _ _ _ _ _ _ => false) (fun _ _ => false) (fun _ _ => false) (fun _ _ _ => false) (fun _ _ _ _ _ _ _ => false) (fun _ _ _ _ => false) (fun _ _ _ _ _ => false) (fun _ _ _ _ _ => false) (fun _ _ _ _ _ => false) (fun _ _ _ _ => false) (fun _ _ _ _ => false) (fun _ _ _ => false) (fun _ _ _ => false) (fun _ _ _ => false) (fun _ _ _ => false) (fun _ _ _ _ _ => false) (fun _ _ _ _ _ => false) (fun _ _ _ => false) (fun _ _ => false) (fun _ _ _ _ => false) (fun _ _ => false) (fun _ _ => false) (fun _ _ => false) (fun _ => false) k (fun _ => false)
theorem dBreak_el {e : Stmt} {k : Pos → Bool} {M : Stmt → Prop} (h : dBreak e k = true) (f : ∀ (x0 : Pos), k x0 = true → M (.Break x0)) : M e := Stmt.casesOn (motive_2 := fun e => dBreak e k = true → M e) e (fun _ _ _ _ _ _ _ _ _ _ => ff_el) (fun _ _ _ _ _ _ _ _ _ _ => ff_el) (fun _ _ _ _ _ _ _ _ _ _ _ => ff_el) (fun _ _ => ff_el) (fun _ _ => ff_el) (fun _ _ _ => ff_el) (fun _ _ _ _ _ _ _ => ff_el) (fun _ _ _ _ => ff_el) (fun _ _ _ _ _ => ff_el) (fun _ _ _ _ _ => ff_el) (fun _ _ _ _ _ => ff_el) (fun _ _ _ _ => ff_el) (fun _ _ _ _ => ff_el) (fun _ _ _ => ff_el) (fun _ _ _ => ff_el) (fun _ _ _ => ff_el) (fun _ _ _ => ff_el) (fun _ _ _ _ _ => ff_el) (fun _ _ _ _ _ => ff_el) (fun _ _ _ => ff_el) (fun _ _ => ff_el) (fun _ _ _ _ => ff_el) (fun _ _ => ff_el) (fun _ _ => ff_el) (fun _ _ => ff_el) (fun _ => ff_el) f (fun _ => ff_el) h
noncomputable def dRaise (e : Stmt) (k : Option Expr → Option Expr → Pos → Bool) : Bool := Stmt.casesOn (motive_2 := fun _ => Bool) e (fun _ _ _ _ _ _ _ _ _ _ => false) (fun _ _ _ _ _ _ _ _ _ _ => false) (fun _ _ _ _ _ _ _ _ _ _ _ => false) (fun _ _ => false) (fun _ _ => false) (fun _ _ _ => false) (fun _ _ _ _ _ _ _ => false) (fun _ _ _ _ => false) (fun _ _ _ _ _ => false) (fun _ _ _ _ _ => false) (fun _ _ _ _ _ => false) (fun _ _ _ _ => false) (fun _ _ _ _ => false) (fun _ _ _ => false) (fun _ _ _ => false) (fun _ _ _ => false) k (fun _ _ _ _ _ => false) (fun _ _ _ _ _ => false) (fun _ _ _ => false) (fun _ _ => false) (fun _ _ _ _ => false) (fun _ _ => false) (fun _ _ => false) (fun _ _ => false) (fun _ => false) (fun _ => false) (fun _ => false)
theorem dRaise_el {e : Stmt} {k : Option Expr → Option Expr → Pos → Bool} {M : Stmt → Prop} (h : dRaise e k = true) (f : ∀ (x0 : Option Expr) (x1 : Option Expr) (x2 : Pos), k x0 x1 x2 = true → M (.Raise x0 x1 x2)) : M e := Stmt.casesOn (motive_2 := fun e => dRaise e k = true → M e) e (fun _ _ _ _ _ _ _ _ _ _ => ff_el) (fun _ _ _ _ _ _ _ _ _ _ => ff_el) (fun _ _ _ _ _ _ _ _ _ _ _ => ff_el) (fun _ _ => ff_el) (fun _ _ => ff_el) (fun _ _ _ => ff_el) (fun _ _ _ _ _ _ _ => ff_el) (fun _ _ _ _ => ff_el) (fun _ _ _ _ _ => ff_el) (fun _ _ _ _ _ => ff_el) (fun _ _ _ _ _ => ff_el) (fun _ _ _ _ => ff_el) (fun _ _ _ _ => ff_el) (fun _ _ _ => ff_el) (fun _ _ _ => ff_el) (fun _ _ _ => ff_el) f (fun _ _ _ _ _ => ff_el) (fun _ _ _ _ _ => ff_el) (fun _ _ _ => ff_el) (fun _ _ => ff_el) (fun _ _ _ _ => ff_el) (fun _ _ => ff_el) (fun _ _ => ff_el) (fun _ _ => ff_el) (fun _ => ff_el) (fun _ => ff_el) (fun _ => ff_el) h
noncomputable def dTry (e : Stmt) (k : List Stmt → List ExceptHandler → List Stmt → List Stmt → Pos → Bool) : Bool := Stmt.casesOn (motive_2 := fun _ => Bool) e (fun _ _ _ _ _ _ _ _ _ _ => false) (fun _ _ _ _ _ _ _ _ _ _ => false) (fun _ _ _ _ _ _ _ _ _ _ _ => false) (fun _ _ => false) (fun _ _ => false) (fun _ _ _ => false) (fun _ _ _ _ _ _ _ => false) (fun _ _ _ _ => false) (fun _ _ _ _ _ => false) (fun _ _ _ _ _ => false) (fun _ _ _ _ _ => false) (fun _ _ _ _ => false) (fun _ _ _ _ => false) (fun _ _ _ => false) (fun _ _ _ => false) (fun _ _ _ => false) (fun _ _ _ => false) k (fun _ _ _ _ _ => false) (fun _ _ _ => false) (fun _ _ => false) (fun _ _ _ _ => false) (fun _ _ => false) (fun _ _ => false) (fun _ _ => false) (fun _ => false) (fun _ => false) (fun _ => false)
theorem dTry_el {e : Stmt} {k : List Stmt → List ExceptHandler → List Stmt → List Stmt → Pos → Bool} {M : Stmt → Prop} (h : dTry e k = true) (f : ∀ (x0 : List Stmt) (x1 : List ExceptHandler) (x2 : List Stmt) (x3 : List Stmt) (x4 : Pos), k x0 x1 x2 x3 x4 = true → M (.Try x0 x1 x2 x3 x4)) : M e := Stmt.casesOn (motive_2 := fun e => dTry e k = true → M e) e (fun _ _ _ _ _ _ _ _ _ _ => ff_el) (fun _ _ _ _ _ _ _ _ _ _ => ff_el) (fun _ _ _ _ _ _ _ _ _ _ _ => ff_el) (fun _ _ => ff_el) (fun _ _ => ff_el) (fun _ _ _ => ff_el) (fun _ _ _ _ _ _ _ => ff_el) (fun _ _ _ _ => ff_el) (fun _ _ _ _ _ => ff_el) (fun _ _ _ _ _ => ff_el) (fun _ _ _ _ _ => ff_el) (fun _ _ _ _ => ff_el) (fun _ _ _ _ => ff_el) (fun _ _ _ => ff_el) (fun _ _ _ => ff_el) (fun _ _ _ => ff_el) (fun _ _ _ => ff_el) f (fun _ _ _ _ _ => ff_el) (fun _ _ _ => ff_el) (fun _ _ => ff_el) (fun _ _ _ _ => ff_el) (fun _ _ => ff_el) (fun _ _ => ff_el) (fun _ _ => ff_el) (fun _ => ff_el) (fun _ => ff_el) (fun _ => ff_el) h
noncomputable def dHand (e : ExceptHandler) (k : Option Expr → Option Str → List Stmt → Pos → Bool) : Bool := match e with | .ExceptHandler x0 x1 x2 x3 => k x0 x1 x2 x3
theorem dHand_el {e : ExceptHandler} {k : Option Expr → Option Str → List Stmt → Pos → Bool} {M : ExceptHandler → Prop} (h : dHand e k = true) (f : ∀ (x0 : Option Expr) (x1 : Option Str) (x2 : List Stmt) (x3 : Pos), k x0 x1 x2 x3 = true → M (.ExceptHandler x0 x1 x2 x3)) : M e := by cases e <;> first | exact f _ _ _ _ h | exact Bool.noConfusion h
noncomputable def pInt (e : Expr) (k : Int → Nat → Pos → Bool) : Bool := dConst e fun w1 k1 p => dCI w1 fun m => k m k1 p
theorem pInt_el {e : Expr} {k : Int → Nat → Pos → Bool} {M : Expr → Prop} (h : pInt e k = true) (ff : ∀ (m : Int) (k1 : Nat) (p : Pos), k m k1 p = true → M (.Constant (.int m) k1 p)) : M e := dConst_el (M := fun z => M z) h fun w1 k1 p h => dCI_el (M := fun z => M (.Constant z k1 p)) h fun m h => ff m k1 p h
noncomputable def pStr (e : Expr) (k : Str → Nat → Pos → Bool) : Bool := dConst e fun w1 k1 p => dCS w1 fun m => k m k1 p
theorem pStr_el {e : Expr} {k : Str → Nat → Pos → Bool} {M : Expr → Prop} (h : pStr e k = true) (ff : ∀ (m : Str) (k1 : Nat) (p : Pos), k m k1 p = true → M (.Constant (.str m) k1 p)) : M e := dConst_el (M := fun z => M z) h fun w1 k1 p h => dCS_el (M := fun z => M (.Constant z k1 p)) h fun m h => ff m k1 p h
noncomputable def pNon (e : Expr) (k : Nat → Pos → Bool) : Bool := dConst e fun w1 k1 p => dCN w1 (k k1 p)
theorem pNon_el {e : Expr} {k : Nat → Pos → Bool} {M : Expr → Prop} (h : pNon e k = true) (ff : ∀ (k1 : Nat) (p : Pos), k k1 p = true → M (.Constant (.none) k1 p)) : M e := dConst_el (M := fun z => M z) h fun w1 k1 p h => dCN_el (M := fun z => M (.Constant z k1 p)) h fun  h => ff k1 p h
noncomputable def pBool (e : Expr) (k : Bool → Nat → Pos → Bool) : Bool := dConst e fun w1 k1 p => dCB w1 fun m => k m k1 p
theorem pBool_el {e : Expr} {k : Bool → Nat → Pos → Bool} {M : Expr → Prop} (h : pBool e k = true) (ff : ∀ (m : Bool) (k1 : Nat) (p : Pos), k m k1 p = true → M (.Constant (.bool m) k1 p)) : M e := dConst_el (M := fun z => M z) h fun w1 k1 p h => dCB_el (M := fun z => M (.Constant z k1 p)) h fun m h => ff m k1 p h
noncomputable def pNeg (e : Expr) (k : Expr → Pos → Bool) : Bool := dUn e fun w1 x p => dUSub w1 (k x p)
theorem pNeg_el {e : Expr} {k : Expr → Pos → Bool} {M : Expr → Prop} (h : pNeg e k = true) (ff : ∀ (x : Expr) (p : Pos), k x p = true → M (.UnaryOp (.USub) x p)) : M e := dUn_el (M := fun z => M z) h fun w1 x p h => dUSub_el (M := fun z => M (.UnaryOp z x p)) h fun  h => ff x p h
noncomputable def pNot (e : Expr) (k : Expr → Pos → Bool) : Bool := dUn e fun w1 x p => dUNot w1 (k x p)
theorem pNot_el {e : Expr} {k : Expr → Pos → Bool} {M : Expr → Prop} (h : pNot e k = true) (ff : ∀ (x : Expr) (p : Pos), k x p = true → M (.UnaryOp (.Not) x p)) : M e := dUn_el (M := fun z => M z) h fun w1 x p h => dUNot_el (M := fun z => M (.UnaryOp z x p)) h fun  h => ff x p h
noncomputable def pCmp (e : Expr) (k : Expr → CmpOp → Expr → Pos → Bool) : Bool := dCmp e fun l w1 w2 p => d1 w1 fun o => d1 w2 fun r => k l o r p
theorem pCmp_el {e : Expr} {k : Expr → CmpOp → Expr → Pos → Bool} {M : Expr → Prop} (h : pCmp e k = true) (ff : ∀ (l : Expr) (o : CmpOp) (r : Expr) (p : Pos), k l o r p = true → M (.Compare l [o] [r] p)) : M e := dCmp_el (M := fun z => M z) h fun l w1 w2 p h => d1_el (M := fun z => M (.Compare l z w2 p)) h fun o h => d1_el (M := fun z => M (.Compare l [o] z p)) h fun r h => ff l o r p h
noncomputable def pCall (e : Expr) (k : Expr → List Expr → Pos → Bool) : Bool := dCall e fun g xs w1 p => dNil w1 (k g xs p)
theorem pCall_el {e : Expr} {k : Expr → List Expr → Pos → Bool} {M : Expr → Prop} (h : pCall e k = true) (ff : ∀ (g : Expr) (xs : List Expr) (p : Pos), k g xs p = true → M (.Call g xs [] p)) : M e := dCall_el (M := fun z => M z) h fun g xs w1 p h => dNil_el (M := fun z => M (.Call g xs z p)) h fun  h => ff g xs p h
noncomputable def pCall1 (e : Expr) (k : Expr → Expr → Pos → Bool) : Bool := dCall e fun g w1 w2 p => d1 w1 fun x => dNil w2 (k g x p)
theorem pCall1_el {e : Expr} {k : Expr → Expr → Pos → Bool} {M : Expr → Prop} (h : pCall1 e k = true) (ff : ∀ (g : Expr) (x : Expr) (p : Pos), k g x p = true → M (.Call g [x] [] p)) : M e := dCall_el (M := fun z => M z) h fun g w1 w2 p h => d1_el (M := fun z => M (.Call g z w2 p)) h fun x h => dNil_el (M := fun z => M (.Call g [x] z p)) h fun  h => ff g x p h
noncomputable def pCall2 (e : Expr) (k : Expr → Expr → Expr → Pos → Bool) : Bool := dCall e fun g w1 w2 p => d2 w1 fun x y => dNil w2 (k g x y p)
theorem pCall2_el {e : Expr} {k : Expr → Expr → Expr → Pos → Bool} {M : Expr → Prop} (h : pCall2 e k = true) (ff : ∀ (g : Expr) (x : Expr) (y : Expr) (p : Pos), k g x y p = true → M (.Call g [x, y] [] p)) : M e := dCall_el (M := fun z => M z) h fun g w1 w2 p h => d2_el (M := fun z => M (.Call g z w2 p)) h fun x y h => dNil_el (M := fun z => M (.Call g [x, y] z p)) h fun  h => ff g x y p h
noncomputable def pMeth (e : Expr) (k : Expr → Str → Pos → List Expr → Pos → Bool) : Bool := dCall e fun w1 xs w2 q => dAttr w1 fun o y p => dNil w2 (k o y p xs q)
theorem pMeth_el {e : Expr} {k : Expr → Str → Pos → List Expr → Pos → Bool} {M : Expr → Prop} (h : pMeth e k = true) (ff : ∀ (o : Expr) (y : Str) (p : Pos) (xs : List Expr) (q : Pos), k o y p xs q = true → M (.Call (.Attribute o y p) xs [] q)) : M e := dCall_el (M := fun z => M z) h fun w1 xs w2 q h => dAttr_el (M := fun z => M (.Call z xs w2 q)) h fun o y p h => dNil_el (M := fun z => M (.Call (.Attribute o y p) xs z q)) h fun  h => ff o y p xs q h
noncomputable def pOf (e : Expr) (k : Expr → Expr → Pos → Expr → Expr → Scope → Pos → Bool) : Bool := dComp e fun w1 w2 sc p7 => dCall w1 fun f w3 w4 p5 => d1 w2 fun w5 => d1 w3 fun v => dNil w4 (dGen0 w5 fun t it w6 w7 => dNil w6 (dI0 w7 fun w8 => dN0 w8 (k f v p5 t it sc p7)))
theorem pOf_el {e : Expr} {k : Expr → Expr → Pos → Expr → Expr → Scope → Pos → Bool} {M : Expr → Prop} (h : pOf e k = true) (ff : ∀ (f : Expr) (v : Expr) (p5 : Pos) (t : Expr) (it : Expr) (sc : Scope) (p7 : Pos), k f v p5 t it sc p7 = true → M (.ListComp (.Call f [v] [] p5) [(.mk t it [] (.ofNat (.zero)))] sc p7)) : M e := dComp_el (M := fun z => M z) h fun w1 w2 sc p7 h => dCall_el (M := fun z => M (.ListComp z w2 sc p7)) h fun f w3 w4 p5 h => d1_el (M := fun z => M (.ListComp (.Call f w3 w4 p5) z sc p7)) h fun w5 h => d1_el (M := fun z => M (.ListComp (.Call f z w4 p5) [w5] sc p7)) h fun v h => dNil_el (M := fun z => M (.ListComp (.Call f [v] z p5) [w5] sc p7)) h fun  h => dGen0_el (M := fun z => M (.ListComp (.Call f [v] [] p5) [z] sc p7)) h fun t it w6 w7 h => dNil_el (M := fun z => M (.ListComp (.Call f [v] [] p5) [(.mk t it z w7)] sc p7)) h fun  h => dI0_el (M := fun z => M (.ListComp (.Call f [v] [] p5) [(.mk t it [] z)] sc p7)) h fun w8 h => dN0_el (M := fun z => M (.ListComp (.Call f [v] [] p5) [(.mk t it [] (.ofNat z))] sc p7)) h fun  h => ff f v p5 t it sc p7 h
noncomputable def pJoin (e : Expr) (k : Str → Nat → Pos → Str → Pos → Expr → Pos → Bool) : Bool := dCall e fun w1 w2 w3 p2 => dAttr w1 fun w4 y p1 => d1 w2 fun lc => dNil w3 (dConst w4 fun w5 k0 p0 => dCS w5 fun s0 => k s0 k0 p0 y p1 lc p2)
theorem pJoin_el {e : Expr} {k : Str → Nat → Pos → Str → Pos → Expr → Pos → Bool} {M : Expr → Prop} (h : pJoin e k = true) (ff : ∀ (s0 : Str) (k0 : Nat) (p0 : Pos) (y : Str) (p1 : Pos) (lc : Expr) (p2 : Pos), k s0 k0 p0 y p1 lc p2 = true → M (.Call (.Attribute (.Constant (.str s0) k0 p0) y p1) [lc] [] p2)) : M e := dCall_el (M := fun z => M z) h fun w1 w2 w3 p2 h => dAttr_el (M := fun z => M (.Call z w2 w3 p2)) h fun w4 y p1 h => d1_el (M := fun z => M (.Call (.Attribute w4 y p1) z w3 p2)) h fun lc h => dNil_el (M := fun z => M (.Call (.Attribute w4 y p1) [lc] z p2)) h fun  h => dConst_el (M := fun z => M (.Call (.Attribute z y p1) [lc] [] p2)) h fun w5 k0 p0 h => dCS_el (M := fun z => M (.Call (.Attribute (.Constant z k0 p0) y p1) [lc] [] p2)) h fun s0 h => ff s0 k0 p0 y p1 lc p2 h
noncomputable def pModPow (e : Expr) (k : Expr → Expr → Expr → Pos → Pos → Int → Nat → Pos → Int → Nat → Pos → Pos → Pos → Bool) : Bool := dBin e fun w1 w2 w3 p9 => dCall w1 fun f w4 w5 p5 => dMod w2 (dBin w3 fun w6 w7 w8 p8 => d1 w4 fun w9 => dNil w5 (dConst w6 fun w10 k1 p6 => dPow w7 (dConst w8 fun w11 k2 p7 => dCall w9 fun gg w12 w13 p4 => dCI w10 fun ten => dCI w11 fun tw => d1 w12 fun v => dNil w13 (k f gg v p4 p5 ten k1 p6 tw k2 p7 p8 p9))))
theorem pModPow_el {e : Expr} {k : Expr → Expr → Expr → Pos → Pos → Int → Nat → Pos → Int → Nat → Pos → Pos → Pos → Bool} {M : Expr → Prop} (h : pModPow e k = true) (ff : ∀ (f : Expr) (gg : Expr) (v : Expr) (p4 : Pos) (p5 : Pos) (ten : Int) (k1 : Nat) (p6 : Pos) (tw : Int) (k2 : Nat) (p7 : Pos) (p8 : Pos) (p9 : Pos), k f gg v p4 p5 ten k1 p6 tw k2 p7 p8 p9 = true → M (.BinOp (.Call f [(.Call gg [v] [] p4)] [] p5) (.Mod) (.BinOp (.Constant (.int ten) k1 p6) (.Pow) (.Constant (.int tw) k2 p7) p8) p9)) : M e := dBin_el (M := fun z => M z) h fun w1 w2 w3 p9 h => dCall_el (M := fun z => M (.BinOp z w2 w3 p9)) h fun f w4 w5 p5 h => dMod_el (M := fun z => M (.BinOp (.Call f w4 w5 p5) z w3 p9)) h fun  h => dBin_el (M := fun z => M (.BinOp (.Call f w4 w5 p5) (.Mod) z p9)) h fun w6 w7 w8 p8 h => d1_el (M := fun z => M (.BinOp (.Call f z w5 p5) (.Mod) (.BinOp w6 w7 w8 p8) p9)) h fun w9 h => dNil_el (M := fun z => M (.BinOp (.Call f [w9] z p5) (.Mod) (.BinOp w6 w7 w8 p8) p9)) h fun  h => dConst_el (M := fun z => M (.BinOp (.Call f [w9] [] p5) (.Mod) (.BinOp z w7 w8 p8) p9)) h fun w10 k1 p6 h => dPow_el (M := fun z => M (.BinOp (.Call f [w9] [] p5) (.Mod) (.BinOp (.Constant w10 k1 p6) z w8 p8) p9)) h fun  h => dConst_el (M := fun z => M (.BinOp (.Call f [w9] [] p5) (.Mod) (.BinOp (.Constant w10 k1 p6) (.Pow) z p8) p9)) h fun w11 k2 p7 h => dCall_el (M := fun z => M (.BinOp (.Call f [z] [] p5) (.Mod) (.BinOp (.Constant w10 k1 p6) (.Pow) (.Constant w11 k2 p7) p8) p9)) h fun gg w12 w13 p4 h => dCI_el (M := fun z => M (.BinOp (.Call f [(.Call gg w12 w13 p4)] [] p5) (.Mod) (.BinOp (.Constant z k1 p6) (.Pow) (.Constant w11 k2 p7) p8) p9)) h fun ten h => dCI_el (M := fun z => M (.BinOp (.Call f [(.Call gg w12 w13 p4)] [] p5) (.Mod) (.BinOp (.Constant (.int ten) k1 p6) (.Pow) (.Constant z k2 p7) p8) p9)) h fun tw h => d1_el (M := fun z => M (.BinOp (.Call f [(.Call gg z w13 p4)] [] p5) (.Mod) (.BinOp (.Constant (.int ten) k1 p6) (.Pow) (.Constant (.int tw) k2 p7) p8) p9)) h fun v h => dNil_el (M := fun z => M (.BinOp (.Call f [(.Call gg [v] z p4)] [] p5) (.Mod) (.BinOp (.Constant (.int ten) k1 p6) (.Pow) (.Constant (.int tw) k2 p7) p8) p9)) h fun  h => ff f gg v p4 p5 ten k1 p6 tw k2 p7 p8 p9 h
noncomputable def pWholes (e : Expr) (k : Expr → Expr → Expr → Scope → Pos → Bool) : Bool := dComp e fun el w1 sc p11 => d1 w1 fun w2 => dGen0 w2 fun t it w3 w4 => dNil w3 (dI0 w4 fun w5 => dN0 w5 (k el t it sc p11))
theorem pWholes_el {e : Expr} {k : Expr → Expr → Expr → Scope → Pos → Bool} {M : Expr → Prop} (h : pWholes e k = true) (ff : ∀ (el : Expr) (t : Expr) (it : Expr) (sc : Scope) (p11 : Pos), k el t it sc p11 = true → M (.ListComp el [(.mk t it [] (.ofNat (.zero)))] sc p11)) : M e := dComp_el (M := fun z => M z) h fun el w1 sc p11 h => d1_el (M := fun z => M (.ListComp el z sc p11)) h fun w2 h => dGen0_el (M := fun z => M (.ListComp el [z] sc p11)) h fun t it w3 w4 h => dNil_el (M := fun z => M (.ListComp el [(.mk t it z w4)] sc p11)) h fun  h => dI0_el (M := fun z => M (.ListComp el [(.mk t it [] z)] sc p11)) h fun w5 h => dN0_el (M := fun z => M (.ListComp el [(.mk t it [] (.ofNat z))] sc p11)) h fun  h => ff el t it sc p11 h
noncomputable def pFind (e : Expr) (k : Str → Nat → Pos → Str → Pos → Expr → Pos → Bool) : Bool := dCall e fun w1 w2 w3 q => dAttr w1 fun w4 y p => d1 w2 fun v => dNil w3 (dConst w4 fun w5 k0 p0 => dCS w5 fun s0 => k s0 k0 p0 y p v q)
theorem pFind_el {e : Expr} {k : Str → Nat → Pos → Str → Pos → Expr → Pos → Bool} {M : Expr → Prop} (h : pFind e k = true) (ff : ∀ (s0 : Str) (k0 : Nat) (p0 : Pos) (y : Str) (p : Pos) (v : Expr) (q : Pos), k s0 k0 p0 y p v q = true → M (.Call (.Attribute (.Constant (.str s0) k0 p0) y p) [v] [] q)) : M e := dCall_el (M := fun z => M z) h fun w1 w2 w3 q h => dAttr_el (M := fun z => M (.Call z w2 w3 q)) h fun w4 y p h => d1_el (M := fun z => M (.Call (.Attribute w4 y p) z w3 q)) h fun v h => dNil_el (M := fun z => M (.Call (.Attribute w4 y p) [v] z q)) h fun  h => dConst_el (M := fun z => M (.Call (.Attribute z y p) [v] [] q)) h fun w5 k0 p0 h => dCS_el (M := fun z => M (.Call (.Attribute (.Constant z k0 p0) y p) [v] [] q)) h fun s0 h => ff s0 k0 p0 y p v q h
noncomputable def pStarts (e : Expr) (k : Expr → Str → Pos → Str → Nat → Pos → Pos → Bool) : Bool := dCall e fun w1 w2 w3 q => dAttr w1 fun o y p => d1 w2 fun w4 => dNil w3 (dConst w4 fun w5 k0 p0 => dCS w5 fun x => k o y p x k0 p0 q)
theorem pStarts_el {e : Expr} {k : Expr → Str → Pos → Str → Nat → Pos → Pos → Bool} {M : Expr → Prop} (h : pStarts e k = true) (ff : ∀ (o : Expr) (y : Str) (p : Pos) (x : Str) (k0 : Nat) (p0 : Pos) (q : Pos), k o y p x k0 p0 q = true → M (.Call (.Attribute o y p) [(.Constant (.str x) k0 p0)] [] q)) : M e := dCall_el (M := fun z => M z) h fun w1 w2 w3 q h => dAttr_el (M := fun z => M (.Call z w2 w3 q)) h fun o y p h => d1_el (M := fun z => M (.Call (.Attribute o y p) z w3 q)) h fun w4 h => dNil_el (M := fun z => M (.Call (.Attribute o y p) [w4] z q)) h fun  h => dConst_el (M := fun z => M (.Call (.Attribute o y p) [z] [] q)) h fun w5 k0 p0 h => dCS_el (M := fun z => M (.Call (.Attribute o y p) [(.Constant z k0 p0)] [] q)) h fun x h => ff o y p x k0 p0 q h
noncomputable def pSlice (e : Expr) (k : Expr → Option Expr → Option Expr → Pos → Pos → Bool) : Bool := dSub e fun v w1 p2 => dSlice w1 fun l h1 w2 p1 => dNone w2 (k v l h1 p1 p2)
theorem pSlice_el {e : Expr} {k : Expr → Option Expr → Option Expr → Pos → Pos → Bool} {M : Expr → Prop} (h : pSlice e k = true) (ff : ∀ (v : Expr) (l : Option Expr) (h1 : Option Expr) (p1 : Pos) (p2 : Pos), k v l h1 p1 p2 = true → M (.Subscript v (.Slice l h1 (.none) p1) p2)) : M e := dSub_el (M := fun z => M z) h fun v w1 p2 h => dSlice_el (M := fun z => M (.Subscript v z p2)) h fun l h1 w2 p1 h => dNone_el (M := fun z => M (.Subscript v (.Slice l h1 z p1) p2)) h fun  h => ff v l h1 p1 p2 h
noncomputable def sAsg (e : Stmt) (k : Expr → Expr → Pos → Bool) : Bool := dAssign e fun w1 v p => d1 w1 fun t => k t v p
theorem sAsg_el {e : Stmt} {k : Expr → Expr → Pos → Bool} {M : Stmt → Prop} (h : sAsg e k = true) (ff : ∀ (t : Expr) (v : Expr) (p : Pos), k t v p = true → M (.Assign [t] v p)) : M e := dAssign_el (M := fun z => M z) h fun w1 v p h => d1_el (M := fun z => M (.Assign z v p)) h fun t h => ff t v p h
noncomputable def sAsgL (e : Stmt) (k : Expr → List Expr → Pos → Pos → Bool) : Bool := dAssign e fun w1 w2 p => d1 w1 fun t => dList w2 fun xs p1 => k t xs p1 p
theorem sAsgL_el {e : Stmt} {k : Expr → List Expr → Pos → Pos → Bool} {M : Stmt → Prop} (h : sAsgL e k = true) (ff : ∀ (t : Expr) (xs : List Expr) (p1 : Pos) (p : Pos), k t xs p1 p = true → M (.Assign [t] (.List xs p1) p)) : M e := dAssign_el (M := fun z => M z) h fun w1 w2 p h => d1_el (M := fun z => M (.Assign z w2 p)) h fun t h => dList_el (M := fun z => M (.Assign [t] z p)) h fun xs p1 h => ff t xs p1 p h
noncomputable def sUnp (e : Stmt) (k : List Expr → Nat → Pos → Expr → List Expr → List Keyword → Pos → Pos → Bool) : Bool := dAssign e fun w1 w2 p => d1 w1 fun w3 => dCall w2 fun f xs ks q => dTup w3 fun ts k1 p1 => k ts k1 p1 f xs ks q p
theorem sUnp_el {e : Stmt} {k : List Expr → Nat → Pos → Expr → List Expr → List Keyword → Pos → Pos → Bool} {M : Stmt → Prop} (h : sUnp e k = true) (ff : ∀ (ts : List Expr) (k1 : Nat) (p1 : Pos) (f : Expr) (xs : List Expr) (ks : List Keyword) (q : Pos) (p : Pos), k ts k1 p1 f xs ks q p = true → M (.Assign [(.Tuple ts k1 p1)] (.Call f xs ks q) p)) : M e := dAssign_el (M := fun z => M z) h fun w1 w2 p h => d1_el (M := fun z => M (.Assign z w2 p)) h fun w3 h => dCall_el (M := fun z => M (.Assign [w3] z p)) h fun f xs ks q h => dTup_el (M := fun z => M (.Assign [z] (.Call f xs ks q) p)) h fun ts k1 p1 h => ff ts k1 p1 f xs ks q p h
noncomputable def sSetAt (e : Stmt) (k : Expr → Str → Pos → Expr → Pos → Bool) : Bool := dAssign e fun w1 v p => d1 w1 fun w2 => dAttr w2 fun o y p1 => k o y p1 v p
theorem sSetAt_el {e : Stmt} {k : Expr → Str → Pos → Expr → Pos → Bool} {M : Stmt → Prop} (h : sSetAt e k = true) (ff : ∀ (o : Expr) (y : Str) (p1 : Pos) (v : Expr) (p : Pos), k o y p1 v p = true → M (.Assign [(.Attribute o y p1)] v p)) : M e := dAssign_el (M := fun z => M z) h fun w1 v p h => d1_el (M := fun z => M (.Assign z v p)) h fun w2 h => dAttr_el (M := fun z => M (.Assign [z] v p)) h fun o y p1 h => ff o y p1 v p h
noncomputable def sSetSub (e : Stmt) (k : Expr → Int → Nat → Pos → Pos → Expr → Pos → Bool) : Bool := dAssign e fun w1 v p => d1 w1 fun w2 => dSub w2 fun o w3 p1 => dConst w3 fun w4 k1 p0 => dCI w4 fun m => k o m k1 p0 p1 v p
theorem sSetSub_el {e : Stmt} {k : Expr → Int → Nat → Pos → Pos → Expr → Pos → Bool} {M : Stmt → Prop} (h : sSetSub e k = true) (ff : ∀ (o : Expr) (m : Int) (k1 : Nat) (p0 : Pos) (p1 : Pos) (v : Expr) (p : Pos), k o m k1 p0 p1 v p = true → M (.Assign [(.Subscript o (.Constant (.int m) k1 p0) p1)] v p)) : M e := dAssign_el (M := fun z => M z) h fun w1 v p h => d1_el (M := fun z => M (.Assign z v p)) h fun w2 h => dSub_el (M := fun z => M (.Assign [z] v p)) h fun o w3 p1 h => dConst_el (M := fun z => M (.Assign [(.Subscript o z p1)] v p)) h fun w4 k1 p0 h => dCI_el (M := fun z => M (.Assign [(.Subscript o (.Constant z k1 p0) p1)] v p)) h fun m h => ff o m k1 p0 p1 v p h
noncomputable def sAugSub (e : Stmt) (k : Expr → Int → Nat → Pos → Pos → Operator → Expr → Pos → Bool) : Bool := dAug e fun w1 o v p => dSub w1 fun t w2 p1 => dConst w2 fun w3 k1 p0 => dCI w3 fun m => k t m k1 p0 p1 o v p
theorem sAugSub_el {e : Stmt} {k : Expr → Int → Nat → Pos → Pos → Operator → Expr → Pos → Bool} {M : Stmt → Prop} (h : sAugSub e k = true) (ff : ∀ (t : Expr) (m : Int) (k1 : Nat) (p0 : Pos) (p1 : Pos) (o : Operator) (v : Expr) (p : Pos), k t m k1 p0 p1 o v p = true → M (.AugAssign (.Subscript t (.Constant (.int m) k1 p0) p1) o v p)) : M e := dAug_el (M := fun z => M z) h fun w1 o v p h => dSub_el (M := fun z => M (.AugAssign z o v p)) h fun t w2 p1 h => dConst_el (M := fun z => M (.AugAssign (.Subscript t z p1) o v p)) h fun w3 k1 p0 h => dCI_el (M := fun z => M (.AugAssign (.Subscript t (.Constant z k1 p0) p1) o v p)) h fun m h => ff t m k1 p0 p1 o v p h
noncomputable def sApp (e : Stmt) (k : Expr → Str → Pos → Expr → Pos → Pos → Bool) : Bool := dExprS e fun w1 p2 => dCall w1 fun w2 w3 w4 q => dAttr w2 fun o y p => d1 w3 fun v => dNil w4 (k o y p v q p2)
theorem sApp_el {e : Stmt} {k : Expr → Str → Pos → Expr → Pos → Pos → Bool} {M : Stmt → Prop} (h : sApp e k = true) (ff : ∀ (o : Expr) (y : Str) (p : Pos) (v : Expr) (q : Pos) (p2 : Pos), k o y p v q p2 = true → M (.Expr (.Call (.Attribute o y p) [v] [] q) p2)) : M e := dExprS_el (M := fun z => M z) h fun w1 p2 h => dCall_el (M := fun z => M (.Expr z p2)) h fun w2 w3 w4 q h => dAttr_el (M := fun z => M (.Expr (.Call z w3 w4 q) p2)) h fun o y p h => d1_el (M := fun z => M (.Expr (.Call (.Attribute o y p) z w4 q) p2)) h fun v h => dNil_el (M := fun z => M (.Expr (.Call (.Attribute o y p) [v] z q) p2)) h fun  h => ff o y p v q p2 h
noncomputable def sRev (e : Stmt) (k : Expr → Str → Pos → Pos → Pos → Bool) : Bool := dExprS e fun w1 p2 => dCall w1 fun w2 w3 w4 q => dAttr w2 fun o y p => dNil w3 (dNil w4 (k o y p q p2))
theorem sRev_el {e : Stmt} {k : Expr → Str → Pos → Pos → Pos → Bool} {M : Stmt → Prop} (h : sRev e k = true) (ff : ∀ (o : Expr) (y : Str) (p : Pos) (q : Pos) (p2 : Pos), k o y p q p2 = true → M (.Expr (.Call (.Attribute o y p) [] [] q) p2)) : M e := dExprS_el (M := fun z => M z) h fun w1 p2 h => dCall_el (M := fun z => M (.Expr z p2)) h fun w2 w3 w4 q h => dAttr_el (M := fun z => M (.Expr (.Call z w3 w4 q) p2)) h fun o y p h => dNil_el (M := fun z => M (.Expr (.Call (.Attribute o y p) z w4 q) p2)) h fun  h => dNil_el (M := fun z => M (.Expr (.Call (.Attribute o y p) [] z q) p2)) h fun  h => ff o y p q p2 h
noncomputable def sWhl (e : Stmt) (k : Expr → List Stmt → Pos → Bool) : Bool := dWhile e fun x a w1 p => dNil w1 (k x a p)
theorem sWhl_el {e : Stmt} {k : Expr → List Stmt → Pos → Bool} {M : Stmt → Prop} (h : sWhl e k = true) (ff : ∀ (x : Expr) (a : List Stmt) (p : Pos), k x a p = true → M (.While x a [] p)) : M e := dWhile_el (M := fun z => M z) h fun x a w1 p h => dNil_el (M := fun z => M (.While x a z p)) h fun  h => ff x a p h
noncomputable def sForR (e : Stmt) (k : Expr → Expr → Expr → Pos → List Stmt → Pos → Bool) : Bool := dFor e fun t w1 a w2 p => dCall w1 fun g w3 w4 q => dNil w2 (d1 w3 fun x => dNil w4 (k t g x q a p))
theorem sForR_el {e : Stmt} {k : Expr → Expr → Expr → Pos → List Stmt → Pos → Bool} {M : Stmt → Prop} (h : sForR e k = true) (ff : ∀ (t : Expr) (g : Expr) (x : Expr) (q : Pos) (a : List Stmt) (p : Pos), k t g x q a p = true → M (.For t (.Call g [x] [] q) a [] p)) : M e := dFor_el (M := fun z => M z) h fun t w1 a w2 p h => dCall_el (M := fun z => M (.For t z a w2 p)) h fun g w3 w4 q h => dNil_el (M := fun z => M (.For t (.Call g w3 w4 q) a z p)) h fun  h => d1_el (M := fun z => M (.For t (.Call g z w4 q) a [] p)) h fun x h => dNil_el (M := fun z => M (.For t (.Call g [x] z q) a [] p)) h fun  h => ff t g x q a p h
noncomputable def sForL (e : Stmt) (k : Expr → Expr → List Stmt → Pos → Bool) : Bool := dFor e fun t x a w1 p => dNil w1 (k t x a p)
theorem sForL_el {e : Stmt} {k : Expr → Expr → List Stmt → Pos → Bool} {M : Stmt → Prop} (h : sForL e k = true) (ff : ∀ (t : Expr) (x : Expr) (a : List Stmt) (p : Pos), k t x a p = true → M (.For t x a [] p)) : M e := dFor_el (M := fun z => M z) h fun t x a w1 p h => dNil_el (M := fun z => M (.For t x a z p)) h fun  h => ff t x a p h
noncomputable def sRet (e : Stmt) (k : Expr → Pos → Bool) : Bool := dRet e fun w1 p => dSome w1 fun x => k x p
theorem sRet_el {e : Stmt} {k : Expr → Pos → Bool} {M : Stmt → Prop} (h : sRet e k = true) (ff : ∀ (x : Expr) (p : Pos), k x p = true → M (.Return (.some x) p)) : M e := dRet_el (M := fun z => M z) h fun w1 p h => dSome_el (M := fun z => M (.Return z p)) h fun x h => ff x p h
noncomputable def sRet0 (e : Stmt) (k : Pos → Bool) : Bool := dRet e fun w1 p => dNone w1 (k p)
theorem sRet0_el {e : Stmt} {k : Pos → Bool} {M : Stmt → Prop} (h : sRet0 e k = true) (ff : ∀ (p : Pos), k p = true → M (.Return (.none) p)) : M e := dRet_el (M := fun z => M z) h fun w1 p h => dNone_el (M := fun z => M (.Return z p)) h fun  h => ff p h
noncomputable def sRetL (e : Stmt) (k : List Expr → Pos → Pos → Bool) : Bool := dRet e fun w1 p => dSome w1 fun w2 => dList w2 fun xs p1 => k xs p1 p
theorem sRetL_el {e : Stmt} {k : List Expr → Pos → Pos → Bool} {M : Stmt → Prop} (h : sRetL e k = true) (ff : ∀ (xs : List Expr) (p1 : Pos) (p : Pos), k xs p1 p = true → M (.Return (.some (.List xs p1)) p)) : M e := dRet_el (M := fun z => M z) h fun w1 p h => dSome_el (M := fun z => M (.Return z p)) h fun w2 h => dList_el (M := fun z => M (.Return (.some z) p)) h fun xs p1 h => ff xs p1 p h
noncomputable def sRaise (e : Stmt) (k : Expr → Str → Pos → Str → Nat → Pos → Expr → Pos → Pos → Bool) : Bool := dRaise e fun w1 w2 p2 => dSome w1 fun w3 => dNone w2 (dCall w3 fun w4 w5 w6 q => dAttr w4 fun o y p => d2 w5 fun w7 v => dNil w6 (dConst w7 fun w8 k1 p0 => dCS w8 fun x => k o y p x k1 p0 v q p2))
theorem sRaise_el {e : Stmt} {k : Expr → Str → Pos → Str → Nat → Pos → Expr → Pos → Pos → Bool} {M : Stmt → Prop} (h : sRaise e k = true) (ff : ∀ (o : Expr) (y : Str) (p : Pos) (x : Str) (k1 : Nat) (p0 : Pos) (v : Expr) (q : Pos) (p2 : Pos), k o y p x k1 p0 v q p2 = true → M (.Raise (.some (.Call (.Attribute o y p) [(.Constant (.str x) k1 p0), v] [] q)) (.none) p2)) : M e := dRaise_el (M := fun z => M z) h fun w1 w2 p2 h => dSome_el (M := fun z => M (.Raise z w2 p2)) h fun w3 h => dNone_el (M := fun z => M (.Raise (.some w3) z p2)) h fun  h => dCall_el (M := fun z => M (.Raise (.some z) (.none) p2)) h fun w4 w5 w6 q h => dAttr_el (M := fun z => M (.Raise (.some (.Call z w5 w6 q)) (.none) p2)) h fun o y p h => d2_el (M := fun z => M (.Raise (.some (.Call (.Attribute o y p) z w6 q)) (.none) p2)) h fun w7 v h => dNil_el (M := fun z => M (.Raise (.some (.Call (.Attribute o y p) [w7, v] z q)) (.none) p2)) h fun  h => dConst_el (M := fun z => M (.Raise (.some (.Call (.Attribute o y p) [z, v] [] q)) (.none) p2)) h fun w8 k1 p0 h => dCS_el (M := fun z => M (.Raise (.some (.Call (.Attribute o y p) [(.Constant z k1 p0), v] [] q)) (.none) p2)) h fun x h => ff o y p x k1 p0 v q p2 h
noncomputable def sTryN (e : Stmt) (k : List Stmt → Expr → List Stmt → Pos → Pos → Bool) : Bool := dTry e fun body w1 w2 w3 p => d1 w1 fun w4 => dNil w2 (dNil w3 (dHand w4 fun w5 w6 hb p1 => dSome w5 fun t => dNone w6 (k body t hb p1 p)))
theorem sTryN_el {e : Stmt} {k : List Stmt → Expr → List Stmt → Pos → Pos → Bool} {M : Stmt → Prop} (h : sTryN e k = true) (ff : ∀ (body : List Stmt) (t : Expr) (hb : List Stmt) (p1 : Pos) (p : Pos), k body t hb p1 p = true → M (.Try body [(.ExceptHandler (.some t) (.none) hb p1)] [] [] p)) : M e := dTry_el (M := fun z => M z) h fun body w1 w2 w3 p h => d1_el (M := fun z => M (.Try body z w2 w3 p)) h fun w4 h => dNil_el (M := fun z => M (.Try body [w4] z w3 p)) h fun  h => dNil_el (M := fun z => M (.Try body [w4] [] z p)) h fun  h => dHand_el (M := fun z => M (.Try body [z] [] [] p)) h fun w5 w6 hb p1 h => dSome_el (M := fun z => M (.Try body [(.ExceptHandler z w6 hb p1)] [] [] p)) h fun t h => dNone_el (M := fun z => M (.Try body [(.ExceptHandler (.some t) z hb p1)] [] [] p)) h fun  h => ff body t hb p1 p h
noncomputable def sTryA (e : Stmt) (k : List Stmt → Expr → Str → List Stmt → Pos → Pos → Bool) : Bool := dTry e fun body w1 w2 w3 p => d1 w1 fun w4 => dNil w2 (dNil w3 (dHand w4 fun w5 w6 hb p1 => dSome w5 fun t => dSome w6 fun nm => k body t nm hb p1 p))
theorem sTryA_el {e : Stmt} {k : List Stmt → Expr → Str → List Stmt → Pos → Pos → Bool} {M : Stmt → Prop} (h : sTryA e k = true) (ff : ∀ (body : List Stmt) (t : Expr) (nm : Str) (hb : List Stmt) (p1 : Pos) (p : Pos), k body t nm hb p1 p = true → M (.Try body [(.ExceptHandler (.some t) (.some nm) hb p1)] [] [] p)) : M e := dTry_el (M := fun z => M z) h fun body w1 w2 w3 p h => d1_el (M := fun z => M (.Try body z w2 w3 p)) h fun w4 h => dNil_el (M := fun z => M (.Try body [w4] z w3 p)) h fun  h => dNil_el (M := fun z => M (.Try body [w4] [] z p)) h fun  h => dHand_el (M := fun z => M (.Try body [z] [] [] p)) h fun w5 w6 hb p1 h => dSome_el (M := fun z => M (.Try body [(.ExceptHandler z w6 hb p1)] [] [] p)) h fun t h => dSome_el (M := fun z => M (.Try body [(.ExceptHandler (.some t) z hb p1)] [] [] p)) h fun nm h => ff body t nm hb p1 p h
noncomputable def fA (e : Stmt) (k : Expr → Expr → Nat → Pos → Expr → Str → Pos → Expr → Pos → Pos → Bool) : Bool := dAssign e fun w1 w2 ps => d1 w1 fun w3 => dCall w2 fun w4 w5 w6 q => dTup w3 fun w7 kt tp => dAttr w4 fun o y p => d1 w5 fun v => dNil w6 (d2 w7 fun t1 t2 => k t1 t2 kt tp o y p v q ps)
theorem fA_el {e : Stmt} {k : Expr → Expr → Nat → Pos → Expr → Str → Pos → Expr → Pos → Pos → Bool} {M : Stmt → Prop} (h : fA e k = true) (ff : ∀ (t1 : Expr) (t2 : Expr) (kt : Nat) (tp : Pos) (o : Expr) (y : Str) (p : Pos) (v : Expr) (q : Pos) (ps : Pos), k t1 t2 kt tp o y p v q ps = true → M (.Assign [(.Tuple [t1, t2] kt tp)] (.Call (.Attribute o y p) [v] [] q) ps)) : M e := dAssign_el (M := fun z => M z) h fun w1 w2 ps h => d1_el (M := fun z => M (.Assign z w2 ps)) h fun w3 h => dCall_el (M := fun z => M (.Assign [w3] z ps)) h fun w4 w5 w6 q h => dTup_el (M := fun z => M (.Assign [z] (.Call w4 w5 w6 q) ps)) h fun w7 kt tp h => dAttr_el (M := fun z => M (.Assign [(.Tuple w7 kt tp)] (.Call z w5 w6 q) ps)) h fun o y p h => d1_el (M := fun z => M (.Assign [(.Tuple w7 kt tp)] (.Call (.Attribute o y p) z w6 q) ps)) h fun v h => dNil_el (M := fun z => M (.Assign [(.Tuple w7 kt tp)] (.Call (.Attribute o y p) [v] z q) ps)) h fun  h => d2_el (M := fun z => M (.Assign [(.Tuple z kt tp)] (.Call (.Attribute o y p) [v] [] q) ps)) h fun t1 t2 h => ff t1 t2 kt tp o y p v q ps h
noncomputable def fR (e : Stmt) (k : Expr → Expr → Expr → Expr → Expr → Pos → Pos → Bool) : Bool := dRet e fun w1 ps2 => dSome w1 fun w2 => dCall w2 fun f w3 w4 q2 => d4 w3 fun a1 a2 a3 a4 => dNil w4 (k f a1 a2 a3 a4 q2 ps2)
theorem fR_el {e : Stmt} {k : Expr → Expr → Expr → Expr → Expr → Pos → Pos → Bool} {M : Stmt → Prop} (h : fR e k = true) (ff : ∀ (f : Expr) (a1 : Expr) (a2 : Expr) (a3 : Expr) (a4 : Expr) (q2 : Pos) (ps2 : Pos), k f a1 a2 a3 a4 q2 ps2 = true → M (.Return (.some (.Call f [a1, a2, a3, a4] [] q2)) ps2)) : M e := dRet_el (M := fun z => M z) h fun w1 ps2 h => dSome_el (M := fun z => M (.Return z ps2)) h fun w2 h => dCall_el (M := fun z => M (.Return (.some z) ps2)) h fun f w3 w4 q2 h => d4_el (M := fun z => M (.Return (.some (.Call f z w4 q2)) ps2)) h fun a1 a2 a3 a4 h => dNil_el (M := fun z => M (.Return (.some (.Call f [a1, a2, a3, a4] z q2)) ps2)) h fun  h => ff f a1 a2 a3 a4 q2 ps2 h
noncomputable def iS (e : Stmt) (k : Str → Pos → Str → Pos → Str → Pos → Pos → Bool) : Bool := dAssign e fun w1 w2 pos => d1 w1 fun w3 => dName w2 fun z1 xp => dAttr w3 fun w4 y ap => dName w4 fun s1 sp => k s1 sp y ap z1 xp pos
theorem iS_el {e : Stmt} {k : Str → Pos → Str → Pos → Str → Pos → Pos → Bool} {M : Stmt → Prop} (h : iS e k = true) (ff : ∀ (s1 : Str) (sp : Pos) (y : Str) (ap : Pos) (z1 : Str) (xp : Pos) (pos : Pos), k s1 sp y ap z1 xp pos = true → M (.Assign [(.Attribute (.Name s1 sp) y ap)] (.Name z1 xp) pos)) : M e := dAssign_el (M := fun z => M z) h fun w1 w2 pos h => d1_el (M := fun z => M (.Assign z w2 pos)) h fun w3 h => dName_el (M := fun z => M (.Assign [w3] z pos)) h fun z1 xp h => dAttr_el (M := fun z => M (.Assign [z] (.Name z1 xp) pos)) h fun w4 y ap h => dName_el (M := fun z => M (.Assign [(.Attribute z y ap)] (.Name z1 xp) pos)) h fun s1 sp h => ff s1 sp y ap z1 xp pos h
end Mine
end

-- E3
section
open PySem PySem.W PyProof.Rows
set_option linter.unusedVariables false
namespace Mine

noncomputable def putF (f : Fld) (a : AV) : List (Fld × AV) → List (Fld × AV)
  | [] => [(f, a)]
  | (f', b) :: r => if f' = f then (f', a) :: r else (f', b) :: putF f a r

noncomputable def AS.putAll (σ : AS) : List Nat → List AV → AS
  | i :: is, a :: as => (σ.put i a).putAll is as
  | _, _ => σ

noncomputable def AS.new (σ : AS) (xs : List AV) : AS := { σ with cells := σ.cells ++ [.lst xs] }

noncomputable def forGo (B : AS → (AF → AS → Prop) → Prop) (i : Nat) (P : AF → AS → Prop) : List AV → AS → Prop
  | [], σ => P .next σ
  | x :: xs, σ => B (σ.put i x) (fun fl σ' => match fl with
    | .next => forGo B i P xs σ'
    | .brk => P .next σ'
    | .ret v => P (.ret v) σ')

noncomputable def augL (C : Option Cell) (ys : List AV) (k : List AV → Prop) : Prop := lstAt C fun xs => xs.length + ys.length ≤ 100000 ∧ k (xs ++ ys)
noncomputable def augR (op : Operator) (v : AV) (C : Option Cell) (k : List AV → Prop) : Prop := match op with
  | .Add => lstP v fun ys => augL C ys k
  | _ => False
noncomputable def augQ (u : Option AV) (ki : Int → Prop) (kr : Nat → Prop) : Prop := match u with
  | some (.int x) => ki x
  | some (.ref k) => kr k
  | _ => False
theorem augR_el {G : Prop} {op : Operator} {v : AV} {C : Option Cell} {k : List AV → Prop} (h : augR op v C k) (f : ∀ ys xs, op = .Add → v = .lst ys → C = some (.lst xs) → xs.length + ys.length ≤ 100000 → k (xs ++ ys) → G) : G := by
  cases op <;> first
    | exact lstP_el h fun ys e q => lstAt_el q fun xs e2 q => f ys xs rfl e e2 q.1 q.2
    | exact False.elim h
theorem augQ_el {G : Prop} {u : Option AV} {ki : Int → Prop} {kr : Nat → Prop} (h : augQ u ki kr) (f1 : ∀ x, u = some (.int x) → ki x → G) (f2 : ∀ k, u = some (.ref k) → kr k → G) : G := by
  cases u with
  | none => exact False.elim h
  | some c => cases c <;> first | exact f1 _ rfl h | exact f2 _ rfl h | exact False.elim h
noncomputable def A_place : Addr := 150

section
variable (Φ : Spec1)
mutual
noncomputable def wpS : CS → AS → (AF → AS → Prop) → (Phi → AS → Prop) → Prop
  | .asg i e, σ, P, X => wpE Φ e σ (fun a σ' => P .next (σ'.put i a)) X
  | .asgL i es, σ, P, X => wpEs Φ es σ (fun xs σ' => xs.length ≤ 100 ∧ 2 ≤ σ'.cells.length ∧ P .next ((σ'.new xs).put i (.ref σ'.cells.length))) X
  | .unp is e, σ, P, X => wpE Φ e σ (fun a σ' => match a with
    | .tup xs => xs.length = is.length ∧ P .next (σ'.putAll is xs)
    | _ => False) X
  | .setAt i f e, σ, P, X => wpE Φ e σ (fun a σ' => insP (σ'.get i) σ'.cells[1]? fun fs => a.closed = true ∧ fs.length ≤ 10 ∧ P .next (σ'.setC 1 (.dct (putF f a fs)))) X
  | .setSub i n e, σ, P, X => wpE Φ e σ (fun a σ' => refP (σ'.get i) fun k => lstAt σ'.cells[k]? fun xs => n < xs.length ∧ n ≤ 1000 ∧ xs.length ≤ 100000 ∧ P .next (σ'.setC k (.lst (xs.set n a)))) X
  | .aug i op e, σ, P, X => augQ (σ.get i) (fun x => wpE Φ e σ (fun v σ' => intP v fun y => binS op σ' (.int x) (.int y) (fun r => P .next (σ'.put i r))) X)
      (fun k => wpE Φ e σ (fun v σ' => augR op v σ'.cells[k]? fun zs => P .next ((σ'.setC k (.lst zs)).put i (.ref k))) X)
  | .augSub i n op e, σ, P, X => refP (σ.get i) fun k => lstAt σ.cells[k]? fun xs => n ≤ 1000 ∧ oIntP xs[n]? fun x => wpE Φ e σ (fun v σ' => intP v fun y => lstAt σ'.cells[k]? fun xs' => n < xs'.length ∧ xs'.length ≤ 100000 ∧ binS op σ' (.int x) (.int y) (fun r => P .next (σ'.setC k (.lst (xs'.set n r))))) X
  | .app i e, σ, P, X => refP (σ.get i) fun k => lstAt σ.cells[k]? fun _ => wpE Φ e σ (fun v σ' => lstAt σ'.cells[k]? fun xs => xs.length ≤ 100000 ∧ P .next (σ'.setC k (.lst (xs ++ [v])))) X
  | .rev i, σ, P, X => refP (σ.get i) fun k => lstAt σ.cells[k]? fun xs => xs.length ≤ 100000 ∧ P .next (σ.setC k (.lst xs.reverse))
  | .exp e, σ, P, X => wpE Φ e σ (fun _ σ' => P .next σ') X
  | .cif c t e, σ, P, X => wpE Φ c σ (fun a σ' => match tr a with
    | some true => wpSs t σ' P X
    | some false => wpSs e σ' P X
    | none => False) X
  | .whl c b, σ, P, X => ∃ (I : AS → Nat → Prop) (n : Nat), I σ n ∧ ∀ σ n, I σ n → wpE Φ c σ (fun a σ' => match tr a with
    | some true => wpSs b σ' (fun fl σ'' => match fl with
      | .next => ∃ m, m < n ∧ I σ'' m
      | .brk => P .next σ''
      | .ret v => P (.ret v) σ'') X
    | some false => P .next σ'
    | none => False) X
  | .forR i e b, σ, P, X => wpE Φ e σ (fun a σ' => match a with
    | .int n => 0 ≤ n ∧ n ≤ 1000000 ∧ forGo (fun σ P => wpSs b σ P X) i P ((List.range n.toNat).map fun k : Nat => AV.int (k : Int)) σ'
    | _ => False) X
  | .forL i e b, σ, P, X => wpE Φ e σ (fun a σ' => match a with
    | .lst xs => forGo (fun σ P => wpSs b σ P X) i P xs σ'
    | _ => False) X
  | .ret e, σ, P, X => wpE Φ e σ (fun a σ' => P (.ret a) σ') X
  | .ret0, σ, P, _ => P (.ret .non) σ
  | .retL es, σ, P, X => wpEs Φ es σ (fun xs σ' => xs.length ≤ 100 ∧ σ'.cells[0]? = some .unborn ∧ P (.ret (.ref 0)) (σ'.setC 0 (.lst xs))) X
  | .brk, σ, P, _ => P .brk σ
  | .raiseF kind e, σ, P, X => insP (σ.get 0) σ.cells[1]? fun _ => wpE Φ e σ (fun a σ' => intP a fun at_ => dctAt σ'.cells[1]? fun _ => Φ A_place [.ins 1, .int at_] σ'.gc (fun r gc => match r with
        | .tup [.int row, .int col] => X (kind, at_, row, col) (σ'.setG gc)
        | _ => False) (fun _ _ => False)) X
  | .tryN b h, σ, P, X => wpSs b σ P (fun φ σ' => wpSs h σ' P X)
  | .tryA b i h, σ, P, X => wpSs b σ P (fun φ σ' => wpSs h (σ'.put i (.flt φ.1 φ.2.1 φ.2.2.1 φ.2.2.2)) (fun fl σ'' => P fl (σ''.del i)) X)
noncomputable def wpSs : CSs → AS → (AF → AS → Prop) → (Phi → AS → Prop) → Prop
  | .nil, σ, P, _ => P .next σ
  | .cons s ss, σ, P, X => wpS s σ (fun fl σ' => match fl with
    | .next => wpSs ss σ' P X
    | .brk => P .brk σ'
    | .ret v => P (.ret v) σ') X
end
end

noncomputable def CE.atom : CE → Bool
  | .var _ | .int _ | .str _ | .non | .bool _ | .attr _ _ => true
  | _ => false
noncomputable def CEs.atoms : CEs → Bool
  | .nil => true
  | .cons e es => e.atom && es.atoms
noncomputable def CE.atom2 : CE → Bool
  | .tup es => es.atoms
  | e => e.atom
noncomputable def CEs.atoms2 : CEs → Bool
  | .nil => true
  | .cons e es => e.atom2 && es.atoms2
noncomputable def CE.simple : CE → Bool
  | .tup es => es.atoms2
  | e => e.atom

noncomputable def isNilS : CSs → Bool
  | .nil => true
  | _ => false
noncomputable def asgE : CS → Bool
  | .asg _ e => e.simple
  | _ => false
noncomputable def handS : CSs → Bool
  | .cons s r => asgE s && isNilS r
  | .nil => false
theorem handS_el {h : CSs} (q : handS h = true) : ∃ i e, h = .cons (.asg i e) .nil ∧ e.simple = true := by
  cases h with
  | nil => exact Bool.noConfusion q
  | cons s r =>
    have q1 : asgE s = true := (Bool.and_eq_true_iff.mp q).1
    have q2 : isNilS r = true := (Bool.and_eq_true_iff.mp q).2
    cases r with
    | cons _ _ => exact Bool.noConfusion q2
    | nil => cases s <;> first | exact ⟨_, _, rfl, q1⟩ | exact Bool.noConfusion q1
/-! the mini text is the given text (but for its places) -/
structure Sc where
  nm : List Str
  sc : Scope

noncomputable def globs : List (Str × Addr) := [("is_layout", 53), ("is_digit", 60), ("is_small", 67), ("is_capital", 74), ("is_alnum", 81), ("is_symbol", 88), ("is_quotable", 95), ("digit_value", 102), ("codes_text", 107),
  ("simple_escape", 114), ("numeral_base", 121), ("_law_pool", 269), ("_law_pick", 276), ("_law_ords", 281), ("_law_figures", 288), ("_law_code", 295), ("_law_plain", 302), ("_law_escape", 309), ("_law_quoted", 316),
  ("_law_word", 323), ("_law_number", 330), ("_law_token", 335), ("_law_gap", 342), ("_law_place", 349), ("_law_faults", 356)]
noncomputable def meths : List (Str × Addr) := [("code_at", 143), ("place", 150), ("fault", 157), ("next", 164), ("skip_clause", 171), ("skip_layout", 178), ("skip_row", 185), ("skip_remark", 192), ("word", 199), ("symbol", 206),
  ("ends_at", 213), ("numeral", 220), ("digits", 227), ("character", 234), ("quoted", 241), ("escape", 248), ("abandon", 255)]
noncomputable def gints : List (Str × Int) := [("MAX_CODE", 1114111), ("NO_CODE", -1), ("BAD_CODE", -2), ("NEW_LINE", 10), ("DOUBLE_QUOTE", 34), ("PERCENT", 37), ("QUOTE", 39), ("OPEN", 40), ("STAR", 42), ("DOT", 46), ("SLASH", 47),
  ("DIGIT_ZERO", 48), ("BACKSLASH", 92), ("UNDERSCORE", 95), ("BACK_QUOTE", 96), ("LETTER_B", 98), ("LETTER_O", 111), ("LETTER_X", 120)]

section
variable (S : Sc)
noncomputable def isLoc (i : Nat) : Expr → Bool
  | .Name x _ => S.nm[i]? == some x
  | _ => false
noncomputable def isGlob (x : Str) : Expr → Bool
  | .Name y _ => y == x && S.sc.names.lookup x == some .globalImplicit && x != ("__debug__" : Str)
  | _ => false
noncomputable def isCompOf : Expr → Bool
  | .ListComp .. | .SetComp .. | .DictComp .. => true
  | _ => false
noncomputable def compScope (v f : Str) (sc : Scope) : Bool := sc.kind == .function && sc.names == ([(".0", NameKind.local), (v, NameKind.local), (f, NameKind.globalImplicit)] : List (Str × NameKind)) && !sc.isGenerator && !sc.isCoroutine && sc.more == []
noncomputable def isName (x : Str) : Expr → Bool
  | .Name y _ => y == x
  | _ => false
noncomputable def chkPart (n v : Option Nat) : Option Expr → Bool
  | none => n == none && v == none
  | some (.Constant (.int k) _ _) => v == none && n.any (fun m => k == (m : Int))
  | some e => n == none && v.any fun i => isLoc S i e
mutual
noncomputable def chkE : CE → Expr → Bool
  | .var i, e => isLoc S i e
  | .frz i, e => isLoc S i e
  | .int n, e => pInt e fun m _ _ => m == n
  | .neg a, e => pNeg e fun x _ => chkE a x
  | .str s, e => pStr e fun x _ _ => x == s
  | .non, e => pNon e fun _ _ => true
  | .bool b, e => pBool e fun x _ _ => x == b
  | .gint x n, e => isGlob S x e && gints.lookup x == some n
  | .tup es, e => dTup e fun xs _ _ => chkEs es xs
  | .lst es, e => dList e fun xs _ => chkEs es xs
  | .bin op a b, e => dBin e fun l o r _ => o == op && chkE a l && chkE b r
  | .cmp op a b, e => pCmp e fun l o r _ => o == op && !behindInMarks o r && chkE a l && chkE b r
  | .bop op es, e => dBool e fun o xs _ => o == op && chkEs es xs
  | .not a, e => pNot e fun x _ => chkE a x
  | .ite c a b, e => dIf e fun t x y _ => chkE c t && chkE a x && chkE b y
  | .call x f es, e => pCall e fun g xs _ => isGlob S x g && globs.lookup x == some f && chkEs es xs && decide (xs.length < 20)
  | .meth i x f es, e => pMeth e fun o y p xs q => isLoc S i o && y == x && meths.lookup x == some f && p.endLine == q.line && chkEs es xs && decide (xs.length < 20)
  | .len a, e => pCall1 e fun g x _ => isGlob S "len" g && chkE a x
  | .chr a, e => pCall1 e fun g x _ => isGlob S "chr" g && chkE a x
  | .abs a, e => pCall1 e fun g x _ => isGlob S "abs" g && chkE a x
  | .int' a, e => pCall1 e fun g x _ => isGlob S "int" g && chkE a x
  | .max a b, e => pCall2 e fun g x y _ => isGlob S "max" g && chkE a x && chkE b y
  | .tuple a, e => pCall1 e fun g x _ => isGlob S "tuple" g && chkE a x
  | .join a, e => pJoin e fun s _ _ y p lc q => pOf lc fun f v _ t it sc _ =>
      s == ("" : Str) && y == ("join" : Str) && p.endLine == q.line && isName "chr" f && isName "code" v && isName "code" t && compScope "code" "chr" sc && chkE a it
  | .ords a, e => pOf e fun f v _ t it sc _ => isName "ord" f && isName "mark" v && isName "mark" t && compScope "mark" "ord" sc && chkE a it
  | .wholes a, e => pWholes e fun el t it sc _ => pModPow el fun f g v _ _ ten _ _ tw _ _ _ _ =>
      ten == 10 && tw == 25 && isName "abs" f && isName "int" g && isName "cell" v && isName "cell" t && sc.kind == .function && !sc.isGenerator && !sc.isCoroutine && sc.more == [] &&
      sc.names == ([(".0", NameKind.local), ("cell", NameKind.local), ("abs", NameKind.globalImplicit), ("int", NameKind.globalImplicit)] : List (Str × NameKind)) && chkE a it
  | .find s a, e => pFind e fun x _ _ y p v q => x == s && y == ("find" : Str) && p.endLine == q.line && chkE a v
  | .starts i s, e => pStarts e fun o y p x _ _ q => isLoc S i o && x == s && y == ("startswith" : Str) && p.endLine == q.line
  | .sub a i, e => dSub e fun v s _ => (match s with | .Slice .. => false | _ => true) && chkE a v && chkE i s
  | .slice a lo hi lv hv, e => pSlice e fun v l h _ _ => chkE a v && chkPart S lo lv l && chkPart S hi hv h
  | .attr i f, e => dAttr e fun o y _ => isLoc S i o && y == f.name
  | .newTok a, e => pCall1 e fun g x _ => isGlob S "Tokenizer" g && chkE a x
noncomputable def chkEs : CEs → List Expr → Bool
  | .nil, es => (match es with | [] => true | _ => false)
  | .cons a as, es => (match es with | e :: r => chkE a e && chkEs as r | [] => false)
end

noncomputable def areLocs : List Nat → List Expr → Bool
  | [], [] => true
  | i :: is, e :: es => isLoc S i e && areLocs is es
  | _, _ => false

mutual
noncomputable def chkS : CS → Stmt → Bool
  | .asg i e, s => sAsg s fun t v _ => isLoc S i t && !isCompOf v && chkE S e v
  | .asgL i es, s => sAsgL s fun t xs _ _ => isLoc S i t && chkEs S es xs
  | .unp is e, s => sUnp s fun ts _ _ f xs ks q _ => areLocs S is ts && chkE S e (.Call f xs ks q)
  | .setAt i f e, s => sSetAt s fun o y _ v _ => isLoc S i o && y == f.name && !isCompOf v && chkE S e v
  | .setSub i n e, s => sSetSub s fun o k _ _ _ v _ => isLoc S i o && k == (n : Int) && !isCompOf v && chkE S e v
  | .aug i op e, s => dAug s fun t o v _ => isLoc S i t && o == op && (op == .Add || op == .FloorDiv) && chkE S e v
  | .augSub i n op e, s => sAugSub s fun t k _ _ _ o v _ => isLoc S i t && k == (n : Int) && o == op && op == .Add && chkE S e v
  | .app i e, s => sApp s fun o y p v q _ => isLoc S i o && y == ("append" : Str) && p.endLine == q.line && chkE S e v
  | .rev i, s => sRev s fun o y p q _ => isLoc S i o && y == ("reverse" : Str) && p.endLine == q.line
  | .exp e, s => dExprS s fun v _ => !isCompOf v && chkE S e v
  | .cif c t e, s => dIfS s fun x a b _ => chkE S c x && chkSs t a && chkSs e b
  | .whl c b, s => sWhl s fun x a _ => chkE S c x && chkSs b a
  | .forR i e b, s => sForR s fun t g x _ a _ => isLoc S i t && isGlob S "range" g && chkE S e x && chkSs b a
  | .forL i e b, s => sForL s fun t x a _ => isLoc S i t && chkE S e x && chkSs b a
  | .ret e, s => sRet s fun x _ => chkE S e x
  | .ret0, s => sRet0 s fun _ => true
  | .retL es, s => sRetL s fun xs _ _ => chkEs S es xs
  | .brk, s => dBreak s fun _ => true
  | .raiseF kind e, s => sRaise s fun o y p x _ _ v q _ => isLoc S 0 o && y == ("fault" : Str) && p.endLine == q.line && x == kind && chkE S e v
  | .tryN b h, s => sTryN s fun body t hb _ _ => isGlob S "SyntaxFault" t && chkSs b body && chkSs h hb && handS h
  | .tryA b i h, s => sTryA s fun body t n hb _ _ => isGlob S "SyntaxFault" t && S.nm[i]? == some n && chkSs b body && chkSs h hb && handS h
noncomputable def chkSs : CSs → List Stmt → Bool
  | .nil, ss => (match ss with | [] => true | _ => false)
  | .cons a as, ss => (match ss with | s :: r => chkS a s && chkSs as r | [] => false)
end
end
end Mine
end

-- EC
section
open PySem PySem.W PyProof.Rows
set_option maxRecDepth 100000
namespace Mine
noncomputable def n_is_layout : List Str := ["code"]
noncomputable def c_is_layout : CSs := (.cons (.ret (.bop .Or (.cons (.cmp .Eq (.var 0) (.int 32)) (.cons (.bop .And (.cons (.cmp .LtE (.int 9) (.var 0)) (.cons (.cmp .LtE (.var 0) (.int 13)) .nil))) .nil)))) .nil)
theorem k_is_layout : chkSs ⟨n_is_layout, f_is_layout.scope⟩ c_is_layout (fBody f_is_layout_st) = true := by decide +kernel
noncomputable def n_is_digit : List Str := ["code"]
noncomputable def c_is_digit : CSs := (.cons (.ret (.bop .And (.cons (.cmp .LtE (.int 48) (.var 0)) (.cons (.cmp .LtE (.var 0) (.int 57)) .nil)))) .nil)
theorem k_is_digit : chkSs ⟨n_is_digit, f_is_digit.scope⟩ c_is_digit (fBody f_is_digit_st) = true := by decide +kernel
noncomputable def n_is_small : List Str := ["code"]
noncomputable def c_is_small : CSs := (.cons (.ret (.bop .And (.cons (.cmp .LtE (.int 97) (.var 0)) (.cons (.cmp .LtE (.var 0) (.int 122)) .nil)))) .nil)
theorem k_is_small : chkSs ⟨n_is_small, f_is_small.scope⟩ c_is_small (fBody f_is_small_st) = true := by decide +kernel
noncomputable def n_is_capital : List Str := ["code"]
noncomputable def c_is_capital : CSs := (.cons (.ret (.bop .And (.cons (.cmp .LtE (.int 65) (.var 0)) (.cons (.cmp .LtE (.var 0) (.int 90)) .nil)))) .nil)
theorem k_is_capital : chkSs ⟨n_is_capital, f_is_capital.scope⟩ c_is_capital (fBody f_is_capital_st) = true := by decide +kernel
noncomputable def n_is_alnum : List Str := ["code"]
noncomputable def c_is_alnum : CSs := (.cons (.ret (.bop .Or (.cons (.call "is_small" 67 (.cons (.var 0) .nil)) (.cons (.call "is_capital" 74 (.cons (.var 0) .nil)) (.cons (.call "is_digit" 60 (.cons (.var 0) .nil)) (.cons (.cmp .Eq (.var 0) (.int 95)) .nil)))))) .nil)
theorem k_is_alnum : chkSs ⟨n_is_alnum, f_is_alnum.scope⟩ c_is_alnum (fBody f_is_alnum_st) = true := by decide +kernel
noncomputable def n_is_symbol : List Str := ["code"]
noncomputable def c_is_symbol : CSs := (.cons (.ret (.bop .And (.cons (.cmp .LtE (.int 0) (.var 0)) (.cons (.cmp .Lt (.var 0) (.int 128)) (.cons (.cmp .In (.chr (.var 0)) (.str "+-*/\\^<>=~:.?@#&$")) .nil))))) .nil)
theorem k_is_symbol : chkSs ⟨n_is_symbol, f_is_symbol.scope⟩ c_is_symbol (fBody f_is_symbol_st) = true := by decide +kernel
noncomputable def n_is_quotable : List Str := ["code"]
noncomputable def c_is_quotable : CSs := (.cons (.ret (.bop .And (.cons (.cmp .GtE (.var 0) (.int 32)) (.cons (.cmp .NotEq (.var 0) (.int 127)) (.cons (.cmp .LtE (.var 0) (.gint "MAX_CODE" (1114111))) .nil))))) .nil)
theorem k_is_quotable : chkSs ⟨n_is_quotable, f_is_quotable.scope⟩ c_is_quotable (fBody f_is_quotable_st) = true := by decide +kernel
noncomputable def n_digit_value : List Str := ["code"]
noncomputable def c_digit_value : CSs := (.cons (.cif (.call "is_digit" 60 (.cons (.var 0) .nil)) (.cons (.ret (.bin .Sub (.var 0) (.int 48))) .nil) .nil) (.cons (.cif (.call "is_small" 67 (.cons (.var 0) .nil)) (.cons (.ret (.bin .Sub (.var 0) (.int 87))) .nil) .nil) (.cons (.cif (.call "is_capital" 74 (.cons (.var 0) .nil)) (.cons (.ret (.bin .Sub (.var 0) (.int 55))) .nil) .nil) (.cons (.ret (.neg (.int 1))) .nil))))
theorem k_digit_value : chkSs ⟨n_digit_value, f_digit_value.scope⟩ c_digit_value (fBody f_digit_value_st) = true := by decide +kernel
noncomputable def n_codes_text : List Str := ["codes"]
noncomputable def c_codes_text : CSs := (.cons (.ret (.join (.var 0))) .nil)
theorem k_codes_text : chkSs ⟨n_codes_text, f_codes_text.scope⟩ c_codes_text (fBody f_codes_text_st) = true := by decide +kernel
noncomputable def n_simple_escape : List Str := ["code", "char", "place"]
noncomputable def c_simple_escape : CSs := (.cons (.asg 1 (.chr (.max (.var 0) (.int 0)))) (.cons (.cif (.cmp .In (.var 1) (.str "\\'\"`")) (.cons (.ret (.var 0)) .nil) .nil) (.cons (.asg 2 (.find "abtnvfr" (.var 1))) (.cons (.cif (.cmp .GtE (.var 2) (.int 0)) (.cons (.ret (.bin .Add (.int 7) (.var 2))) .nil) .nil) (.cons (.ret (.neg (.int 1))) .nil)))))
theorem k_simple_escape : chkSs ⟨n_simple_escape, f_simple_escape.scope⟩ c_simple_escape (fBody f_simple_escape_st) = true := by decide +kernel
noncomputable def n_numeral_base : List Str := ["code"]
noncomputable def c_numeral_base : CSs := (.cons (.cif (.cmp .Eq (.var 0) (.gint "LETTER_B" (98))) (.cons (.ret (.int 2)) .nil) .nil) (.cons (.cif (.cmp .Eq (.var 0) (.gint "LETTER_O" (111))) (.cons (.ret (.int 8)) .nil) .nil) (.cons (.cif (.cmp .Eq (.var 0) (.gint "LETTER_X" (120))) (.cons (.ret (.int 16)) .nil) .nil) (.cons (.ret (.int 0)) .nil))))
theorem k_numeral_base : chkSs ⟨n_numeral_base, f_numeral_base.scope⟩ c_numeral_base (fBody f_numeral_base_st) = true := by decide +kernel
noncomputable def n_Tokenizer_init : List Str := ["self", "codes", "at"]
noncomputable def c_Tokenizer_init : CSs := (.cons (.setAt 0 .codes (.var 1)) (.cons (.setAt 0 .at (.var 2)) (.cons (.setAt 0 .origin (.var 2)) .nil)))
theorem k_Tokenizer_init : chkSs ⟨n_Tokenizer_init, f_Tokenizer_init.scope⟩ c_Tokenizer_init (fBody f_Tokenizer_init_st) = true := by decide +kernel
noncomputable def n_Tokenizer_code_at : List Str := ["self", "index", "code"]
noncomputable def c_Tokenizer_code_at : CSs := (.cons (.cif (.cmp .GtE (.var 1) (.len (.attr 0 .codes))) (.cons (.ret (.gint "NO_CODE" (-1))) .nil) .nil) (.cons (.asg 2 (.sub (.attr 0 .codes) (.var 1))) (.cons (.cif (.bop .Or (.cons (.cmp .Lt (.var 2) (.int 0)) (.cons (.cmp .Gt (.var 2) (.gint "MAX_CODE" (1114111))) .nil))) (.cons (.ret (.gint "BAD_CODE" (-2))) .nil) .nil) (.cons (.ret (.var 2)) .nil))))
theorem k_Tokenizer_code_at : chkSs ⟨n_Tokenizer_code_at, f_Tokenizer_code_at.scope⟩ c_Tokenizer_code_at (fBody f_Tokenizer_code_at_st) = true := by decide +kernel
noncomputable def n_Tokenizer_place : List Str := ["self", "at", "row", "column", "index"]
noncomputable def c_Tokenizer_place : CSs := (.cons (.asg 2 (.int 1)) (.cons (.asg 3 (.int 1)) (.cons (.asg 4 (.int 0)) (.cons (.whl (.bop .And (.cons (.cmp .Lt (.var 4) (.var 1)) (.cons (.cmp .Lt (.var 4) (.len (.attr 0 .codes))) .nil))) (.cons (.cif (.cmp .Eq (.sub (.attr 0 .codes) (.var 4)) (.gint "NEW_LINE" (10))) (.cons (.asg 2 (.bin .Add (.var 2) (.int 1))) (.cons (.asg 3 (.int 1)) .nil)) (.cons (.asg 3 (.bin .Add (.var 3) (.int 1))) .nil)) (.cons (.asg 4 (.bin .Add (.var 4) (.int 1))) .nil))) (.cons (.ret (.tup (.cons (.var 2) (.cons (.var 3) .nil)))) .nil)))))
theorem k_Tokenizer_place : chkSs ⟨n_Tokenizer_place, f_Tokenizer_place.scope⟩ c_Tokenizer_place (fBody f_Tokenizer_place_st) = true := by decide +kernel
noncomputable def n_Tokenizer_next : List Str := ["self", "begun", "at", "code", "char"]
noncomputable def c_Tokenizer_next : CSs := (.cons (.asg 1 (.attr 0 .at)) (.cons (.exp (.meth 0 "skip_layout" 178 .nil)) (.cons (.asg 2 (.attr 0 .at)) (.cons (.cif (.cmp .GtE (.var 2) (.len (.attr 0 .codes))) (.cons (.ret (.tup (.cons (.str "eof") (.cons (.str "") (.cons (.var 2) .nil))))) .nil) .nil) (.cons (.asg 3 (.meth 0 "code_at" 143 (.cons (.var 2) .nil))) (.cons (.cif (.cmp .Eq (.var 3) (.gint "OPEN" (40))) (.cons (.setAt 0 .at (.bin .Add (.var 2) (.int 1))) (.cons (.cif (.bop .Or (.cons (.cmp .Gt (.var 2) (.var 1)) (.cons (.cmp .Eq (.var 2) (.attr 0 .origin)) .nil))) (.cons (.ret (.tup (.cons (.str "open") (.cons (.str "(") (.cons (.var 2) .nil))))) .nil) .nil) (.cons (.ret (.tup (.cons (.str "open_ct") (.cons (.str "(") (.cons (.var 2) .nil))))) .nil))) .nil) (.cons (.cif (.call "is_small" 67 (.cons (.var 3) .nil)) (.cons (.ret (.tup (.cons (.str "name") (.cons (.meth 0 "word" 199 (.cons (.var 2) .nil)) (.cons (.var 2) .nil))))) .nil) .nil) (.cons (.cif (.bop .Or (.cons (.call "is_capital" 74 (.cons (.var 3) .nil)) (.cons (.cmp .Eq (.var 3) (.gint "UNDERSCORE" (95))) .nil))) (.cons (.ret (.tup (.cons (.str "var") (.cons (.meth 0 "word" 199 (.cons (.var 2) .nil)) (.cons (.var 2) .nil))))) .nil) .nil) (.cons (.cif (.call "is_digit" 60 (.cons (.var 3) .nil)) (.cons (.ret (.meth 0 "numeral" 220 (.cons (.var 2) .nil))) .nil) .nil) (.cons (.cif (.cmp .Eq (.var 3) (.gint "QUOTE" (39))) (.cons (.ret (.tup (.cons (.str "qname") (.cons (.call "codes_text" 107 (.cons (.meth 0 "quoted" 241 (.cons (.var 2) (.cons (.gint "QUOTE" (39)) .nil))) .nil)) (.cons (.var 2) .nil))))) .nil) .nil) (.cons (.cif (.cmp .Eq (.var 3) (.gint "DOUBLE_QUOTE" (34))) (.cons (.ret (.tup (.cons (.str "string") (.cons (.tuple (.meth 0 "quoted" 241 (.cons (.var 2) (.cons (.gint "DOUBLE_QUOTE" (34)) .nil)))) (.cons (.var 2) .nil))))) .nil) .nil) (.cons (.cif (.cmp .Eq (.var 3) (.gint "BACK_QUOTE" (96))) (.cons (.ret (.tup (.cons (.str "back") (.cons (.tuple (.meth 0 "quoted" 241 (.cons (.var 2) (.cons (.gint "BACK_QUOTE" (96)) .nil)))) (.cons (.var 2) .nil))))) .nil) .nil) (.cons (.cif (.call "is_symbol" 88 (.cons (.var 3) .nil)) (.cons (.ret (.meth 0 "symbol" 206 (.cons (.var 2) .nil))) .nil) .nil) (.cons (.setAt 0 .at (.bin .Add (.var 2) (.int 1))) (.cons (.asg 4 (.chr (.max (.var 3) (.int 0)))) (.cons (.cif (.cmp .In (.var 4) (.str ")[]{},|")) (.cons (.ret (.tup (.cons (.str "punct") (.cons (.var 4) (.cons (.var 2) .nil))))) .nil) .nil) (.cons (.cif (.cmp .In (.var 4) (.str "!;")) (.cons (.ret (.tup (.cons (.str "name") (.cons (.var 4) (.cons (.var 2) .nil))))) .nil) .nil) (.cons (.raiseF "undefined_char" (.var 2)) .nil))))))))))))))))))
theorem k_Tokenizer_next : chkSs ⟨n_Tokenizer_next, f_Tokenizer_next.scope⟩ c_Tokenizer_next (fBody f_Tokenizer_next_st) = true := by decide +kernel
noncomputable def n_Tokenizer_skip_clause : List Str := ["self", "kind"]
noncomputable def c_Tokenizer_skip_clause : CSs := (.cons (.whl (.bool true) (.cons (.tryN (.cons (.asg 1 (.sub (.meth 0 "next" 164 .nil) (.int 0))) .nil) (.cons (.asg 1 (.str "fault")) .nil)) (.cons (.cif (.bop .Or (.cons (.cmp .Eq (.var 1) (.str "end")) (.cons (.cmp .Eq (.var 1) (.str "eof")) .nil))) (.cons .ret0 .nil) .nil) .nil))) .nil)
theorem k_Tokenizer_skip_clause : chkSs ⟨n_Tokenizer_skip_clause, f_Tokenizer_skip_clause.scope⟩ c_Tokenizer_skip_clause (fBody f_Tokenizer_skip_clause_st) = true := by decide +kernel
noncomputable def n_Tokenizer_skip_layout : List Str := ["self", "code"]
noncomputable def c_Tokenizer_skip_layout : CSs := (.cons (.whl (.bool true) (.cons (.asg 1 (.meth 0 "code_at" 143 (.cons (.attr 0 .at) .nil))) (.cons (.cif (.call "is_layout" 53 (.cons (.var 1) .nil)) (.cons (.setAt 0 .at (.bin .Add (.attr 0 .at) (.int 1))) .nil) (.cons (.cif (.cmp .Eq (.var 1) (.gint "PERCENT" (37))) (.cons (.exp (.meth 0 "skip_row" 185 .nil)) .nil) (.cons (.cif (.bop .And (.cons (.cmp .Eq (.var 1) (.gint "SLASH" (47))) (.cons (.cmp .Eq (.meth 0 "code_at" 143 (.cons (.bin .Add (.attr 0 .at) (.int 1)) .nil)) (.gint "STAR" (42))) .nil))) (.cons (.exp (.meth 0 "skip_remark" 192 .nil)) .nil) (.cons .ret0 .nil)) .nil)) .nil)) .nil))) .nil)
theorem k_Tokenizer_skip_layout : chkSs ⟨n_Tokenizer_skip_layout, f_Tokenizer_skip_layout.scope⟩ c_Tokenizer_skip_layout (fBody f_Tokenizer_skip_layout_st) = true := by decide +kernel
noncomputable def n_Tokenizer_skip_row : List Str := ["self", "code"]
noncomputable def c_Tokenizer_skip_row : CSs := (.cons (.whl (.bool true) (.cons (.asg 1 (.meth 0 "code_at" 143 (.cons (.attr 0 .at) .nil))) (.cons (.cif (.bop .Or (.cons (.cmp .Eq (.var 1) (.gint "NO_CODE" (-1))) (.cons (.cmp .Eq (.var 1) (.gint "NEW_LINE" (10))) .nil))) (.cons .ret0 .nil) .nil) (.cons (.setAt 0 .at (.bin .Add (.attr 0 .at) (.int 1))) .nil)))) .nil)
theorem k_Tokenizer_skip_row : chkSs ⟨n_Tokenizer_skip_row, f_Tokenizer_skip_row.scope⟩ c_Tokenizer_skip_row (fBody f_Tokenizer_skip_row_st) = true := by decide +kernel
noncomputable def n_Tokenizer_skip_remark : List Str := ["self", "begun", "code"]
noncomputable def c_Tokenizer_skip_remark : CSs := (.cons (.asg 1 (.attr 0 .at)) (.cons (.setAt 0 .at (.bin .Add (.var 1) (.int 2))) (.cons (.whl (.bool true) (.cons (.asg 2 (.meth 0 "code_at" 143 (.cons (.attr 0 .at) .nil))) (.cons (.cif (.cmp .Eq (.var 2) (.gint "NO_CODE" (-1))) (.cons (.raiseF "unfinished_remark" (.var 1)) .nil) .nil) (.cons (.cif (.bop .And (.cons (.cmp .Eq (.var 2) (.gint "STAR" (42))) (.cons (.cmp .Eq (.meth 0 "code_at" 143 (.cons (.bin .Add (.attr 0 .at) (.int 1)) .nil)) (.gint "SLASH" (47))) .nil))) (.cons (.setAt 0 .at (.bin .Add (.attr 0 .at) (.int 2))) (.cons .ret0 .nil)) .nil) (.cons (.setAt 0 .at (.bin .Add (.attr 0 .at) (.int 1))) .nil))))) .nil)))
theorem k_Tokenizer_skip_remark : chkSs ⟨n_Tokenizer_skip_remark, f_Tokenizer_skip_remark.scope⟩ c_Tokenizer_skip_remark (fBody f_Tokenizer_skip_remark_st) = true := by decide +kernel
noncomputable def n_Tokenizer_word : List Str := ["self", "at", "end"]
noncomputable def c_Tokenizer_word : CSs := (.cons (.asg 2 (.var 1)) (.cons (.whl (.call "is_alnum" 81 (.cons (.meth 0 "code_at" 143 (.cons (.var 2) .nil)) .nil)) (.cons (.asg 2 (.bin .Add (.var 2) (.int 1))) .nil)) (.cons (.setAt 0 .at (.var 2)) (.cons (.ret (.call "codes_text" 107 (.cons (.slice (.attr 0 .codes) none none (some 1) (some 2)) .nil))) .nil))))
theorem k_Tokenizer_word : chkSs ⟨n_Tokenizer_word, f_Tokenizer_word.scope⟩ c_Tokenizer_word (fBody f_Tokenizer_word_st) = true := by decide +kernel
noncomputable def n_Tokenizer_symbol : List Str := ["self", "at", "end"]
noncomputable def c_Tokenizer_symbol : CSs := (.cons (.cif (.bop .And (.cons (.cmp .Eq (.meth 0 "code_at" 143 (.cons (.var 1) .nil)) (.gint "DOT" (46))) (.cons (.meth 0 "ends_at" 213 (.cons (.bin .Add (.var 1) (.int 1)) .nil)) .nil))) (.cons (.setAt 0 .at (.bin .Add (.var 1) (.int 1))) (.cons (.ret (.tup (.cons (.str "end") (.cons (.str ".") (.cons (.var 1) .nil))))) .nil)) .nil) (.cons (.asg 2 (.var 1)) (.cons (.whl (.call "is_symbol" 88 (.cons (.meth 0 "code_at" 143 (.cons (.var 2) .nil)) .nil)) (.cons (.asg 2 (.bin .Add (.var 2) (.int 1))) .nil)) (.cons (.setAt 0 .at (.var 2)) (.cons (.ret (.tup (.cons (.str "name") (.cons (.call "codes_text" 107 (.cons (.slice (.attr 0 .codes) none none (some 1) (some 2)) .nil)) (.cons (.var 1) .nil))))) .nil)))))
theorem k_Tokenizer_symbol : chkSs ⟨n_Tokenizer_symbol, f_Tokenizer_symbol.scope⟩ c_Tokenizer_symbol (fBody f_Tokenizer_symbol_st) = true := by decide +kernel
noncomputable def n_Tokenizer_ends_at : List Str := ["self", "index", "code"]
noncomputable def c_Tokenizer_ends_at : CSs := (.cons (.asg 2 (.meth 0 "code_at" 143 (.cons (.var 1) .nil))) (.cons (.ret (.bop .Or (.cons (.cmp .Eq (.var 2) (.gint "NO_CODE" (-1))) (.cons (.cmp .Eq (.var 2) (.gint "PERCENT" (37))) (.cons (.call "is_layout" 53 (.cons (.var 2) .nil)) .nil))))) .nil))
theorem k_Tokenizer_ends_at : chkSs ⟨n_Tokenizer_ends_at, f_Tokenizer_ends_at.scope⟩ c_Tokenizer_ends_at (fBody f_Tokenizer_ends_at_st) = true := by decide +kernel
noncomputable def n_Tokenizer_numeral : List Str := ["self", "at", "mark", "base", "digit", "value"]
noncomputable def c_Tokenizer_numeral : CSs := (.cons (.cif (.cmp .Eq (.meth 0 "code_at" 143 (.cons (.var 1) .nil)) (.gint "DIGIT_ZERO" (48))) (.cons (.asg 2 (.meth 0 "code_at" 143 (.cons (.bin .Add (.var 1) (.int 1)) .nil))) (.cons (.cif (.cmp .Eq (.var 2) (.gint "QUOTE" (39))) (.cons (.ret (.tup (.cons (.str "int") (.cons (.meth 0 "character" 234 (.cons (.var 1) .nil)) (.cons (.var 1) .nil))))) .nil) .nil) (.cons (.asg 3 (.call "numeral_base" 121 (.cons (.var 2) .nil))) (.cons (.asg 4 (.call "digit_value" 102 (.cons (.meth 0 "code_at" 143 (.cons (.bin .Add (.var 1) (.int 2)) .nil)) .nil))) (.cons (.cif (.bop .And (.cons (.cmp .LtE (.int 0) (.var 4)) (.cons (.cmp .Lt (.var 4) (.var 3)) .nil))) (.cons (.ret (.tup (.cons (.str "int") (.cons (.meth 0 "digits" 227 (.cons (.bin .Add (.var 1) (.int 2)) (.cons (.var 3) .nil))) (.cons (.var 1) .nil))))) .nil) .nil) .nil))))) .nil) (.cons (.asg 5 (.meth 0 "digits" 227 (.cons (.var 1) (.cons (.int 10) .nil)))) (.cons (.cif (.bop .And (.cons (.cmp .Eq (.meth 0 "code_at" 143 (.cons (.attr 0 .at) .nil)) (.gint "DOT" (46))) (.cons (.call "is_digit" 60 (.cons (.meth 0 "code_at" 143 (.cons (.bin .Add (.attr 0 .at) (.int 1)) .nil)) .nil)) .nil))) (.cons (.exp (.meth 0 "digits" 227 (.cons (.bin .Add (.attr 0 .at) (.int 1)) (.cons (.int 10) .nil)))) (.cons (.raiseF "bad_number" (.var 1)) .nil)) .nil) (.cons (.ret (.tup (.cons (.str "int") (.cons (.var 5) (.cons (.var 1) .nil))))) .nil))))
theorem k_Tokenizer_numeral : chkSs ⟨n_Tokenizer_numeral, f_Tokenizer_numeral.scope⟩ c_Tokenizer_numeral (fBody f_Tokenizer_numeral_st) = true := by decide +kernel
noncomputable def n_Tokenizer_digits : List Str := ["self", "index", "base", "value", "digit"]
noncomputable def c_Tokenizer_digits : CSs := (.cons (.asg 3 (.int 0)) (.cons (.whl (.bool true) (.cons (.asg 4 (.call "digit_value" 102 (.cons (.meth 0 "code_at" 143 (.cons (.var 1) .nil)) .nil))) (.cons (.cif (.bop .Or (.cons (.cmp .Lt (.var 4) (.int 0)) (.cons (.cmp .GtE (.var 4) (.var 2)) .nil))) (.cons (.setAt 0 .at (.var 1)) (.cons (.ret (.var 3)) .nil)) .nil) (.cons (.asg 3 (.bin .Add (.bin .Mult (.var 3) (.var 2)) (.var 4))) (.cons (.asg 1 (.bin .Add (.var 1) (.int 1))) .nil))))) .nil))
theorem k_Tokenizer_digits : chkSs ⟨n_Tokenizer_digits, f_Tokenizer_digits.scope⟩ c_Tokenizer_digits (fBody f_Tokenizer_digits_st) = true := by decide +kernel
noncomputable def n_Tokenizer_character : List Str := ["self", "at", "code", "value"]
noncomputable def c_Tokenizer_character : CSs := (.cons (.asg 2 (.meth 0 "code_at" 143 (.cons (.bin .Add (.var 1) (.int 2)) .nil))) (.cons (.cif (.cmp .Eq (.var 2) (.gint "BACKSLASH" (92))) (.cons (.setAt 0 .at (.bin .Add (.var 1) (.int 2))) (.cons (.asg 3 (.meth 0 "escape" 248 .nil)) (.cons (.cif (.cmp .Lt (.var 3) (.int 0)) (.cons (.setAt 0 .at (.bin .Add (.var 1) (.int 3))) (.cons (.raiseF "bad_escape" (.bin .Add (.var 1) (.int 2))) .nil)) .nil) (.cons (.ret (.var 3)) .nil)))) .nil) (.cons (.cif (.cmp .Eq (.var 2) (.gint "QUOTE" (39))) (.cons (.cif (.cmp .Eq (.meth 0 "code_at" 143 (.cons (.bin .Add (.var 1) (.int 3)) .nil)) (.gint "QUOTE" (39))) (.cons (.setAt 0 .at (.bin .Add (.var 1) (.int 4))) (.cons (.ret (.gint "QUOTE" (39))) .nil)) .nil) (.cons (.setAt 0 .at (.bin .Add (.var 1) (.int 3))) (.cons (.raiseF "bad_number" (.var 1)) .nil))) .nil) (.cons (.cif (.call "is_quotable" 95 (.cons (.var 2) .nil)) (.cons (.setAt 0 .at (.bin .Add (.var 1) (.int 3))) (.cons (.ret (.var 2)) .nil)) .nil) (.cons (.setAt 0 .at (.bin .Add (.var 1) (.int 2))) (.cons (.raiseF "bad_number" (.var 1)) .nil))))))
theorem k_Tokenizer_character : chkSs ⟨n_Tokenizer_character, f_Tokenizer_character.scope⟩ c_Tokenizer_character (fBody f_Tokenizer_character_st) = true := by decide +kernel
noncomputable def n_Tokenizer_quoted : List Str := ["self", "begun", "quote", "codes", "at", "code", "value"]
noncomputable def c_Tokenizer_quoted : CSs := (.cons (.setAt 0 .at (.bin .Add (.var 1) (.int 1))) (.cons (.asgL 3 .nil) (.cons (.whl (.bool true) (.cons (.asg 4 (.attr 0 .at)) (.cons (.asg 5 (.meth 0 "code_at" 143 (.cons (.var 4) .nil))) (.cons (.cif (.cmp .Eq (.var 5) (.var 2)) (.cons (.cif (.cmp .NotEq (.meth 0 "code_at" 143 (.cons (.bin .Add (.var 4) (.int 1)) .nil)) (.var 2)) (.cons (.setAt 0 .at (.bin .Add (.var 4) (.int 1))) (.cons (.ret (.frz 3)) .nil)) .nil) (.cons (.app 3 (.var 2)) (.cons (.setAt 0 .at (.bin .Add (.var 4) (.int 2))) .nil))) (.cons (.cif (.bop .Or (.cons (.cmp .Eq (.var 5) (.gint "NO_CODE" (-1))) (.cons (.cmp .Eq (.var 5) (.gint "NEW_LINE" (10))) .nil))) (.cons (.raiseF "unfinished_quoted" (.var 1)) .nil) (.cons (.cif (.bop .And (.cons (.cmp .Eq (.var 5) (.gint "BACKSLASH" (92))) (.cons (.cmp .Eq (.meth 0 "code_at" 143 (.cons (.bin .Add (.var 4) (.int 1)) .nil)) (.gint "NEW_LINE" (10))) .nil))) (.cons (.setAt 0 .at (.bin .Add (.var 4) (.int 2))) .nil) (.cons (.cif (.cmp .Eq (.var 5) (.gint "BACKSLASH" (92))) (.cons (.asg 6 (.meth 0 "escape" 248 .nil)) (.cons (.cif (.cmp .Lt (.var 6) (.int 0)) (.cons (.exp (.meth 0 "abandon" 255 (.cons (.var 2) .nil))) (.cons (.raiseF "bad_escape" (.var 4)) .nil)) .nil) (.cons (.app 3 (.var 6)) .nil))) (.cons (.cif (.call "is_quotable" 95 (.cons (.var 5) .nil)) (.cons (.app 3 (.var 5)) (.cons (.setAt 0 .at (.bin .Add (.var 4) (.int 1))) .nil)) (.cons (.exp (.meth 0 "abandon" 255 (.cons (.var 2) .nil))) (.cons (.raiseF "undefined_char" (.var 4)) .nil))) .nil)) .nil)) .nil)) .nil)) .nil)))) .nil)))
theorem k_Tokenizer_quoted : chkSs ⟨n_Tokenizer_quoted, f_Tokenizer_quoted.scope⟩ c_Tokenizer_quoted (fBody f_Tokenizer_quoted_st) = true := by decide +kernel
noncomputable def n_Tokenizer_escape : List Str := ["self", "index", "code", "simple", "base", "begun", "value", "digit"]
noncomputable def c_Tokenizer_escape : CSs := (.cons (.asg 1 (.bin .Add (.attr 0 .at) (.int 1))) (.cons (.asg 2 (.meth 0 "code_at" 143 (.cons (.var 1) .nil))) (.cons (.asg 3 (.call "simple_escape" 114 (.cons (.var 2) .nil))) (.cons (.cif (.cmp .GtE (.var 3) (.int 0)) (.cons (.setAt 0 .at (.bin .Add (.var 1) (.int 1))) (.cons (.ret (.var 3)) .nil)) .nil) (.cons (.asg 4 (.int 8)) (.cons (.cif (.cmp .Eq (.var 2) (.gint "LETTER_X" (120))) (.cons (.asg 4 (.int 16)) (.cons (.asg 1 (.bin .Add (.var 1) (.int 1))) .nil)) .nil) (.cons (.asg 5 (.var 1)) (.cons (.asg 6 (.int 0)) (.cons (.whl (.bool true) (.cons (.asg 7 (.call "digit_value" 102 (.cons (.meth 0 "code_at" 143 (.cons (.var 1) .nil)) .nil))) (.cons (.cif (.bop .Or (.cons (.cmp .Lt (.var 7) (.int 0)) (.cons (.cmp .GtE (.var 7) (.var 4)) .nil))) (.cons .brk .nil) .nil) (.cons (.cif (.cmp .LtE (.var 6) (.gint "MAX_CODE" (1114111))) (.cons (.asg 6 (.bin .Add (.bin .Mult (.var 6) (.var 4)) (.var 7))) .nil) .nil) (.cons (.asg 1 (.bin .Add (.var 1) (.int 1))) .nil))))) (.cons (.cif (.bop .Or (.cons (.cmp .Eq (.var 1) (.var 5)) (.cons (.cmp .Gt (.var 6) (.gint "MAX_CODE" (1114111))) (.cons (.cmp .NotEq (.meth 0 "code_at" 143 (.cons (.var 1) .nil)) (.gint "BACKSLASH" (92))) .nil)))) (.cons (.ret (.neg (.int 1))) .nil) .nil) (.cons (.setAt 0 .at (.bin .Add (.var 1) (.int 1))) (.cons (.ret (.var 6)) .nil))))))))))))
theorem k_Tokenizer_escape : chkSs ⟨n_Tokenizer_escape, f_Tokenizer_escape.scope⟩ c_Tokenizer_escape (fBody f_Tokenizer_escape_st) = true := by decide +kernel
noncomputable def n_Tokenizer_abandon : List Str := ["self", "quote", "code", "follower"]
noncomputable def c_Tokenizer_abandon : CSs := (.cons (.whl (.bool true) (.cons (.asg 2 (.meth 0 "code_at" 143 (.cons (.attr 0 .at) .nil))) (.cons (.asg 3 (.meth 0 "code_at" 143 (.cons (.bin .Add (.attr 0 .at) (.int 1)) .nil))) (.cons (.cif (.bop .Or (.cons (.cmp .Eq (.var 2) (.gint "NO_CODE" (-1))) (.cons (.cmp .Eq (.var 2) (.gint "NEW_LINE" (10))) .nil))) (.cons .ret0 .nil) .nil) (.cons (.cif (.bop .And (.cons (.cmp .Eq (.var 2) (.gint "BACKSLASH" (92))) (.cons (.cmp .NotEq (.var 3) (.gint "NO_CODE" (-1))) .nil))) (.cons (.setAt 0 .at (.bin .Add (.attr 0 .at) (.int 2))) .nil) (.cons (.cif (.bop .And (.cons (.cmp .Eq (.var 2) (.var 1)) (.cons (.cmp .Eq (.var 3) (.var 1)) .nil))) (.cons (.setAt 0 .at (.bin .Add (.attr 0 .at) (.int 2))) .nil) (.cons (.cif (.cmp .Eq (.var 2) (.var 1)) (.cons (.setAt 0 .at (.bin .Add (.attr 0 .at) (.int 1))) (.cons .ret0 .nil)) (.cons (.setAt 0 .at (.bin .Add (.attr 0 .at) (.int 1))) .nil)) .nil)) .nil)) .nil))))) .nil)
theorem k_Tokenizer_abandon : chkSs ⟨n_Tokenizer_abandon, f_Tokenizer_abandon.scope⟩ c_Tokenizer_abandon (fBody f_Tokenizer_abandon_st) = true := by decide +kernel
noncomputable def n_law_pool : List Str := ["script", "figures", "mix", "cell", "whole", "rest", "step"]
noncomputable def c_law_pool : CSs := (.cons (.asgL 1 .nil) (.cons (.asg 2 (.int 5)) (.cons (.forL 3 (.slice (.var 0) none (some 40) none none) (.cons (.asg 4 (.int' (.var 3))) (.cons (.asg 2 (.bin .Mod (.bin .Add (.bin .Mult (.var 2) (.int 31)) (.var 4)) (.int 1009))) (.cons (.asg 5 (.abs (.var 4))) (.cons (.forR 6 (.int 60) (.cons (.app 1 (.bin .Mod (.var 5) (.int 840))) (.cons (.aug 5 .FloorDiv (.int 840)) (.cons (.cif (.cmp .Eq (.var 5) (.int 0)) (.cons .brk .nil) .nil) .nil)))) (.cons (.cif (.cmp .Gt (.len (.var 1)) (.int 400)) (.cons .brk .nil) .nil) .nil)))))) (.cons (.retL (.cons (.frz 1) (.cons (.int 0) (.cons (.var 2) .nil)))) .nil))))
theorem k_law_pool : chkSs ⟨n_law_pool, f_law_pool.scope⟩ c_law_pool (fBody f_law_pool_st) = true := by decide +kernel
noncomputable def n_law_pick : List Str := ["pool", "bound", "figure"]
noncomputable def c_law_pick : CSs := (.cons (.cif (.cmp .Lt (.sub (.var 0) (.int 1)) (.len (.sub (.var 0) (.int 0)))) (.cons (.asg 2 (.sub (.sub (.var 0) (.int 0)) (.sub (.var 0) (.int 1)))) (.cons (.augSub 0 1 .Add (.int 1)) .nil)) (.cons (.cif (.cmp .Lt (.len (.sub (.var 0) (.int 0))) (.int 3)) (.cons (.asg 2 (.int 0)) .nil) (.cons (.setSub 0 2 (.bin .Mod (.bin .Add (.bin .Mult (.sub (.var 0) (.int 2)) (.int 37)) (.int 11)) (.int 1009))) (.cons (.asg 2 (.sub (.var 0) (.int 2))) .nil))) .nil)) (.cons (.ret (.bin .Mod (.var 2) (.var 1))) .nil))
theorem k_law_pick : chkSs ⟨n_law_pick, f_law_pick.scope⟩ c_law_pick (fBody f_law_pick_st) = true := by decide +kernel
noncomputable def n_law_ords : List Str := ["text"]
noncomputable def c_law_ords : CSs := (.cons (.ret (.ords (.var 0))) .nil)
theorem k_law_ords : chkSs ⟨n_law_ords, f_law_ords.scope⟩ c_law_ords (fBody f_law_ords_st) = true := by decide +kernel
noncomputable def n_law_figures : List Str := ["whole", "base", "shift", "row", "figure"]
noncomputable def c_law_figures : CSs := (.cons (.asgL 3 .nil) (.cons (.whl (.bool true) (.cons (.asg 4 (.bin .Mod (.var 0) (.var 1))) (.cons (.app 3 (.ite (.cmp .Lt (.var 4) (.int 10)) (.bin .Add (.int 48) (.var 4)) (.bin .Add (.var 2) (.var 4)))) (.cons (.aug 0 .FloorDiv (.var 1)) (.cons (.cif (.cmp .Eq (.var 0) (.int 0)) (.cons .brk .nil) .nil) .nil))))) (.cons (.rev 3) (.cons (.ret (.frz 3)) .nil))))
theorem k_law_figures : chkSs ⟨n_law_figures, f_law_figures.scope⟩ c_law_figures (fBody f_law_figures_st) = true := by decide +kernel
noncomputable def n_law_code : List Str := ["pool", "way", "code"]
noncomputable def c_law_code : CSs := (.cons (.asg 1 (.call "_law_pick" 276 (.cons (.var 0) (.cons (.int 3) .nil)))) (.cons (.cif (.cmp .Eq (.var 1) (.int 0)) (.cons (.ret (.call "_law_pick" 276 (.cons (.var 0) (.cons (.int 128) .nil)))) .nil) .nil) (.cons (.cif (.cmp .Eq (.var 1) (.int 1)) (.cons (.asg 2 (.bin .Mod (.bin .Mult (.call "_law_pick" 276 (.cons (.var 0) (.cons (.int 840) .nil))) (.int 1327)) (.int 1114112))) (.cons (.ret (.ite (.bop .Or (.cons (.cmp .Lt (.var 2) (.int 55296)) (.cons (.cmp .Gt (.var 2) (.int 57343)) .nil))) (.var 2) (.int 65))) .nil)) .nil) (.cons (.ret (.bin .Sub (.int 1114111) (.call "_law_pick" 276 (.cons (.var 0) (.cons (.int 5) .nil))))) .nil))))
theorem k_law_code : chkSs ⟨n_law_code, f_law_code.scope⟩ c_law_code (fBody f_law_code_st) = true := by decide +kernel
noncomputable def n_law_plain : List Str := ["pool", "barred", "code"]
noncomputable def c_law_plain : CSs := (.cons (.asg 2 (.call "_law_code" 295 (.cons (.var 0) .nil))) (.cons (.cif (.bop .Or (.cons (.cmp .Lt (.var 2) (.int 32)) (.cons (.cmp .Eq (.var 2) (.int 127)) (.cons (.cmp .In (.var 2) (.var 1)) .nil)))) (.cons (.ret (.bin .Add (.int 65) (.bin .Mod (.var 2) (.int 26)))) .nil) .nil) (.cons (.ret (.var 2)) .nil)))
theorem k_law_plain : chkSs ⟨n_law_plain, f_law_plain.scope⟩ c_law_plain (fBody f_law_plain_st) = true := by decide +kernel
noncomputable def n_law_escape : List Str := ["pool", "way", "place", "letter", "code"]
noncomputable def c_law_escape : CSs := (.cons (.cif (.cmp .Eq (.var 1) (.int 0)) (.cons (.asg 2 (.call "_law_pick" 276 (.cons (.var 0) (.cons (.int 11) .nil)))) (.cons (.asg 3 (.sub (.lst (.cons (.int 97) (.cons (.int 98) (.cons (.int 102) (.cons (.int 110) (.cons (.int 114) (.cons (.int 116) (.cons (.int 118) (.cons (.int 92) (.cons (.int 39) (.cons (.int 34) (.cons (.int 96) .nil)))))))))))) (.var 2))) (.cons (.ret (.tup (.cons (.lst (.cons (.int 92) (.cons (.var 3) .nil))) (.cons (.sub (.lst (.cons (.int 7) (.cons (.int 8) (.cons (.int 12) (.cons (.int 10) (.cons (.int 13) (.cons (.int 9) (.cons (.int 11) (.cons (.int 92) (.cons (.int 39) (.cons (.int 34) (.cons (.int 96) .nil)))))))))))) (.var 2)) .nil)))) .nil))) .nil) (.cons (.asg 4 (.call "_law_code" 295 (.cons (.var 0) .nil))) (.cons (.cif (.cmp .Eq (.var 1) (.int 1)) (.cons (.ret (.tup (.cons (.bin .Add (.bin .Add (.lst (.cons (.int 92) (.cons (.int 120) .nil))) (.call "_law_figures" 288 (.cons (.var 4) (.cons (.int 16) (.cons (.int 87) .nil))))) (.lst (.cons (.int 92) .nil))) (.cons (.var 4) .nil)))) .nil) .nil) (.cons (.ret (.tup (.cons (.bin .Add (.bin .Add (.lst (.cons (.int 92) .nil)) (.call "_law_figures" 288 (.cons (.var 4) (.cons (.int 8) (.cons (.int 87) .nil))))) (.lst (.cons (.int 92) .nil))) (.cons (.var 4) .nil)))) .nil))))
theorem k_law_escape : chkSs ⟨n_law_escape, f_law_escape.scope⟩ c_law_escape (fBody f_law_escape_st) = true := by decide +kernel
noncomputable def n_law_quoted : List Str := ["pool", "quote", "spelled", "value", "step", "way", "part", "code"]
noncomputable def c_law_quoted : CSs := (.cons (.asgL 2 (.cons (.var 1) .nil)) (.cons (.asgL 3 .nil) (.cons (.forR 4 (.call "_law_pick" 276 (.cons (.var 0) (.cons (.int 5) .nil))) (.cons (.asg 5 (.call "_law_pick" 276 (.cons (.var 0) (.cons (.int 6) .nil)))) (.cons (.cif (.cmp .Eq (.var 5) (.int 0)) (.cons (.aug 2 .Add (.lst (.cons (.var 1) (.cons (.var 1) .nil)))) (.cons (.app 3 (.var 1)) .nil)) (.cons (.cif (.cmp .Lt (.var 5) (.int 4)) (.cons (.unp [6, 7] (.call "_law_escape" 309 (.cons (.var 0) (.cons (.bin .Sub (.var 5) (.int 1)) .nil)))) (.cons (.aug 2 .Add (.var 6)) (.cons (.app 3 (.var 7)) .nil))) (.cons (.cif (.cmp .Eq (.var 5) (.int 4)) (.cons (.aug 2 .Add (.lst (.cons (.int 92) (.cons (.int 10) .nil)))) .nil) (.cons (.asg 7 (.call "_law_plain" 302 (.cons (.var 0) (.cons (.lst (.cons (.var 1) (.cons (.int 92) .nil))) .nil)))) (.cons (.app 2 (.var 7)) (.cons (.app 3 (.var 7)) .nil)))) .nil)) .nil)) .nil))) (.cons (.ret (.tup (.cons (.bin .Add (.var 2) (.lst (.cons (.var 1) .nil))) (.cons (.frz 3) .nil)))) .nil))))
theorem k_law_quoted : chkSs ⟨n_law_quoted, f_law_quoted.scope⟩ c_law_quoted (fBody f_law_quoted_st) = true := by decide +kernel
noncomputable def n_law_word : List Str := ["pool", "first", "row", "step"]
noncomputable def c_law_word : CSs := (.cons (.asgL 2 (.cons (.var 1) .nil)) (.cons (.forR 3 (.call "_law_pick" 276 (.cons (.var 0) (.cons (.int 4) .nil))) (.cons (.app 2 (.sub (.lst (.cons (.int 97) (.cons (.int 90) (.cons (.int 48) (.cons (.int 95) (.cons (.int 57) (.cons (.int 113) .nil))))))) (.call "_law_pick" 276 (.cons (.var 0) (.cons (.int 6) .nil))))) .nil)) (.cons (.ret (.frz 2)) .nil)))
theorem k_law_word : chkSs ⟨n_law_word, f_law_word.scope⟩ c_law_word (fBody f_law_word_st) = true := by decide +kernel
noncomputable def n_law_number : List Str := ["pool", "wholes", "form", "whole", "way", "part", "code"]
noncomputable def c_law_number : CSs := (.cons (.asg 2 (.call "_law_pick" 276 (.cons (.var 0) (.cons (.int 8) .nil)))) (.cons (.asg 3 (.sub (.var 1) (.call "_law_pick" 276 (.cons (.var 0) (.cons (.len (.var 1)) .nil))))) (.cons (.cif (.cmp .Lt (.var 2) (.int 3)) (.cons (.ret (.tup (.cons (.bin .Add (.bin .Mult (.lst (.cons (.int 48) .nil)) (.call "_law_pick" 276 (.cons (.var 0) (.cons (.int 3) .nil)))) (.call "_law_figures" 288 (.cons (.var 3) (.cons (.int 10) (.cons (.int 87) .nil))))) (.cons (.var 3) .nil)))) .nil) .nil) (.cons (.cif (.cmp .Eq (.var 2) (.int 3)) (.cons (.ret (.tup (.cons (.bin .Add (.lst (.cons (.int 48) (.cons (.int 120) .nil))) (.call "_law_figures" 288 (.cons (.var 3) (.cons (.int 16) (.cons (.int 87) .nil))))) (.cons (.var 3) .nil)))) .nil) .nil) (.cons (.cif (.cmp .Eq (.var 2) (.int 4)) (.cons (.ret (.tup (.cons (.bin .Add (.lst (.cons (.int 48) (.cons (.int 120) .nil))) (.call "_law_figures" 288 (.cons (.var 3) (.cons (.int 16) (.cons (.int 55) .nil))))) (.cons (.var 3) .nil)))) .nil) .nil) (.cons (.cif (.cmp .Eq (.var 2) (.int 5)) (.cons (.ret (.tup (.cons (.bin .Add (.lst (.cons (.int 48) (.cons (.int 111) .nil))) (.call "_law_figures" 288 (.cons (.var 3) (.cons (.int 8) (.cons (.int 87) .nil))))) (.cons (.var 3) .nil)))) .nil) .nil) (.cons (.cif (.cmp .Eq (.var 2) (.int 6)) (.cons (.ret (.tup (.cons (.bin .Add (.lst (.cons (.int 48) (.cons (.int 98) .nil))) (.call "_law_figures" 288 (.cons (.bin .Mod (.var 3) (.int 4096)) (.cons (.int 2) (.cons (.int 87) .nil))))) (.cons (.bin .Mod (.var 3) (.int 4096)) .nil)))) .nil) .nil) (.cons (.asg 4 (.call "_law_pick" 276 (.cons (.var 0) (.cons (.int 5) .nil)))) (.cons (.cif (.cmp .Eq (.var 4) (.int 0)) (.cons (.ret (.tup (.cons (.lst (.cons (.int 48) (.cons (.int 39) (.cons (.int 39) (.cons (.int 39) .nil))))) (.cons (.int 39) .nil)))) .nil) .nil) (.cons (.cif (.cmp .Lt (.var 4) (.int 4)) (.cons (.unp [5, 6] (.call "_law_escape" 309 (.cons (.var 0) (.cons (.bin .Sub (.var 4) (.int 1)) .nil)))) (.cons (.ret (.tup (.cons (.bin .Add (.lst (.cons (.int 48) (.cons (.int 39) .nil))) (.var 5)) (.cons (.var 6) .nil)))) .nil)) .nil) (.cons (.asg 6 (.call "_law_plain" 302 (.cons (.var 0) (.cons (.lst (.cons (.int 39) (.cons (.int 92) .nil))) .nil)))) (.cons (.ret (.tup (.cons (.lst (.cons (.int 48) (.cons (.int 39) (.cons (.var 6) .nil)))) (.cons (.var 6) .nil)))) .nil))))))))))))
theorem k_law_number : chkSs ⟨n_law_number, f_law_number.scope⟩ c_law_number (fBody f_law_number_st) = true := by decide +kernel
noncomputable def n_law_token : List Str := ["pool", "wholes", "choice", "row", "signs", "text", "step", "whole", "value"]
noncomputable def c_law_token : CSs := (.cons (.asg 2 (.call "_law_pick" 276 (.cons (.var 0) (.cons (.int 12) .nil)))) (.cons (.cif (.cmp .Eq (.var 2) (.int 0)) (.cons (.asg 3 (.call "_law_word" 323 (.cons (.var 0) (.cons (.bin .Add (.int 97) (.call "_law_pick" 276 (.cons (.var 0) (.cons (.int 26) .nil)))) .nil)))) (.cons (.ret (.tup (.cons (.var 3) (.cons (.str "name") (.cons (.join (.var 3)) (.cons (.str "word") (.cons (.str "word") .nil))))))) .nil)) .nil) (.cons (.cif (.cmp .Eq (.var 2) (.int 1)) (.cons (.asg 4 (.str "+-*/\\^<>=~:.?@#&$")) (.cons (.asg 5 (.sub (.var 4) (.call "_law_pick" 276 (.cons (.var 0) (.cons (.int 17) .nil))))) (.cons (.forR 6 (.call "_law_pick" 276 (.cons (.var 0) (.cons (.int 3) .nil))) (.cons (.asg 5 (.bin .Add (.var 5) (.sub (.var 4) (.call "_law_pick" 276 (.cons (.var 0) (.cons (.int 17) .nil)))))) .nil)) (.cons (.cif (.bop .Or (.cons (.cmp .Eq (.var 5) (.str ".")) (.cons (.starts 5 "/*") .nil))) (.cons (.asg 5 (.bin .Add (.str ":") (.var 5))) .nil) .nil) (.cons (.ret (.tup (.cons (.call "_law_ords" 281 (.cons (.var 5) .nil)) (.cons (.str "name") (.cons (.var 5) (.cons (.str "sign") (.cons (.str "sign") .nil))))))) .nil))))) .nil) (.cons (.cif (.cmp .Eq (.var 2) (.int 2)) (.cons (.asg 5 (.sub (.str "!;") (.call "_law_pick" 276 (.cons (.var 0) (.cons (.int 2) .nil))))) (.cons (.ret (.tup (.cons (.call "_law_ords" 281 (.cons (.var 5) .nil)) (.cons (.str "name") (.cons (.var 5) (.cons (.str "solo") (.cons (.str "solo") .nil))))))) .nil)) .nil) (.cons (.cif (.cmp .Eq (.var 2) (.int 3)) (.cons (.asg 3 (.call "_law_word" 323 (.cons (.var 0) (.cons (.sub (.lst (.cons (.int 95) (.cons (.int 65) (.cons (.int 90) (.cons (.int 77) .nil))))) (.call "_law_pick" 276 (.cons (.var 0) (.cons (.int 4) .nil)))) .nil)))) (.cons (.ret (.tup (.cons (.var 3) (.cons (.str "var") (.cons (.join (.var 3)) (.cons (.str "word") (.cons (.str "word") .nil))))))) .nil)) .nil) (.cons (.cif (.bop .Or (.cons (.cmp .Eq (.var 2) (.int 4)) (.cons (.cmp .Eq (.var 2) (.int 5)) .nil))) (.cons (.unp [3, 7] (.call "_law_number" 330 (.cons (.var 0) (.cons (.var 1) .nil)))) (.cons (.ret (.tup (.cons (.var 3) (.cons (.str "int") (.cons (.var 7) (.cons (.str "word") (.cons (.str "int") .nil))))))) .nil)) .nil) (.cons (.cif (.cmp .Eq (.var 2) (.int 6)) (.cons (.unp [3, 8] (.call "_law_quoted" 316 (.cons (.var 0) (.cons (.int 39) .nil)))) (.cons (.ret (.tup (.cons (.var 3) (.cons (.str "qname") (.cons (.join (.var 8)) (.cons (.str "39") (.cons (.str "39") .nil))))))) .nil)) .nil) (.cons (.cif (.cmp .Eq (.var 2) (.int 7)) (.cons (.unp [3, 8] (.call "_law_quoted" 316 (.cons (.var 0) (.cons (.int 34) .nil)))) (.cons (.ret (.tup (.cons (.var 3) (.cons (.str "string") (.cons (.tuple (.var 8)) (.cons (.str "34") (.cons (.str "34") .nil))))))) .nil)) .nil) (.cons (.cif (.cmp .Eq (.var 2) (.int 8)) (.cons (.unp [3, 8] (.call "_law_quoted" 316 (.cons (.var 0) (.cons (.int 96) .nil)))) (.cons (.ret (.tup (.cons (.var 3) (.cons (.str "back") (.cons (.tuple (.var 8)) (.cons (.str "96") (.cons (.str "96") .nil))))))) .nil)) .nil) (.cons (.cif (.cmp .Eq (.var 2) (.int 9)) (.cons (.asg 5 (.sub (.str ")[]{},|") (.call "_law_pick" 276 (.cons (.var 0) (.cons (.int 7) .nil))))) (.cons (.ret (.tup (.cons (.call "_law_ords" 281 (.cons (.var 5) .nil)) (.cons (.str "punct") (.cons (.var 5) (.cons (.str "solo") (.cons (.str "solo") .nil))))))) .nil)) .nil) (.cons (.cif (.cmp .Eq (.var 2) (.int 10)) (.cons (.ret (.tup (.cons (.lst (.cons (.int 40) .nil)) (.cons (.str "open") (.cons (.str "(") (.cons (.str "solo") (.cons (.str "solo") .nil))))))) .nil) .nil) (.cons (.ret (.tup (.cons (.lst (.cons (.int 46) .nil)) (.cons (.str "end") (.cons (.str ".") (.cons (.str "sign") (.cons (.str "end") .nil))))))) .nil))))))))))))
theorem k_law_token : chkSs ⟨n_law_token, f_law_token.scope⟩ c_law_token (fBody f_law_token_st) = true := by decide +kernel
noncomputable def n_law_gap : List Str := ["pool", "must", "last", "row", "parts", "step", "kind", "body"]
noncomputable def c_law_gap : CSs := (.cons (.asgL 3 .nil) (.cons (.asg 4 (.call "_law_pick" 276 (.cons (.var 0) (.cons (.int 3) .nil)))) (.cons (.cif (.bop .And (.cons (.var 1) (.cons (.cmp .Eq (.var 4) (.int 0)) .nil))) (.cons (.asg 4 (.int 1)) .nil) .nil) (.cons (.forR 5 (.var 4) (.cons (.asg 6 (.call "_law_pick" 276 (.cons (.var 0) (.cons (.int 5) .nil)))) (.cons (.asg 7 (.sub (.lst (.cons (.lst .nil) (.cons (.lst (.cons (.int 42) .nil)) (.cons (.lst (.cons (.int 39) (.cons (.int 97) .nil))) (.cons (.lst (.cons (.int 47) .nil)) (.cons (.lst (.cons (.int 34) (.cons (.int 40) (.cons (.int 233) .nil)))) (.cons (.lst (.cons (.int 42) (.cons (.int 32) (.cons (.int 47) .nil)))) (.cons (.lst (.cons (.int 5) (.cons (.int 92) (.cons (.int 46) .nil)))) .nil)))))))) (.call "_law_pick" 276 (.cons (.var 0) (.cons (.int 7) .nil))))) (.cons (.cif (.cmp .Eq (.var 6) (.int 0)) (.cons (.app 3 (.int 32)) .nil) (.cons (.cif (.cmp .Eq (.var 6) (.int 1)) (.cons (.app 3 (.int 10)) .nil) (.cons (.cif (.cmp .Eq (.var 6) (.int 2)) (.cons (.aug 3 .Add (.lst (.cons (.int 9) (.cons (.int 13) .nil)))) .nil) (.cons (.cif (.cmp .Eq (.var 6) (.int 3)) (.cons (.aug 3 .Add (.bin .Add (.bin .Add (.lst (.cons (.int 37) .nil)) (.var 7)) (.lst (.cons (.int 10) .nil)))) .nil) (.cons (.cif (.bop .And (.cons (.cmp .Eq (.var 3) (.lst .nil)) (.cons (.cmp .In (.var 2) (.lst (.cons (.str "sign") (.cons (.str "end") .nil)))) .nil))) (.cons (.app 3 (.int 32)) .nil) .nil) (.cons (.aug 3 .Add (.bin .Add (.bin .Add (.lst (.cons (.int 47) (.cons (.int 42) .nil))) (.var 7)) (.lst (.cons (.int 42) (.cons (.int 47) .nil))))) .nil))) .nil)) .nil)) .nil)) .nil)))) (.cons (.ret (.frz 3)) .nil)))))
theorem k_law_gap : chkSs ⟨n_law_gap, f_law_gap.scope⟩ c_law_gap (fBody f_law_gap_st) = true := by decide +kernel
noncomputable def n_law_place : List Str := ["codes", "at", "row", "last", "index"]
noncomputable def c_law_place : CSs := (.cons (.asg 2 (.int 1)) (.cons (.asg 3 (.neg (.int 1))) (.cons (.forR 4 (.var 1) (.cons (.cif (.cmp .Eq (.sub (.var 0) (.var 4)) (.int 10)) (.cons (.aug 2 .Add (.int 1)) (.cons (.asg 3 (.var 4)) .nil)) .nil) .nil)) (.cons (.ret (.tup (.cons (.var 2) (.cons (.bin .Sub (.var 1) (.var 3)) .nil)))) .nil))))
theorem k_law_place : chkSs ⟨n_law_place, f_law_place.scope⟩ c_law_place (fBody f_law_place_st) = true := by decide +kernel
noncomputable def n_law_faults : List Str := ["pool", "other"]
noncomputable def c_law_faults : CSs := (.cons (.asg 1 (.sub (.lst (.cons (.int 233) (.cons (.int 1) (.cons (.int 127) (.cons (.neg (.int 5)) (.cons (.int 1114112) (.cons (.int 5000) .nil))))))) (.call "_law_pick" 276 (.cons (.var 0) (.cons (.int 6) .nil))))) (.cons (.ret (.sub (.lst (.cons (.tup (.cons (.lst .nil) (.cons (.str "") (.cons (.int 0) (.cons (.int 0) .nil))))) (.cons (.tup (.cons (.lst (.cons (.int 39) (.cons (.int 97) (.cons (.int 98) .nil)))) (.cons (.str "unfinished_quoted") (.cons (.int 0) (.cons (.int 0) .nil))))) (.cons (.tup (.cons (.lst (.cons (.int 34) (.cons (.int 97) (.cons (.int 39) (.cons (.int 10) .nil))))) (.cons (.str "unfinished_quoted") (.cons (.int 0) (.cons (.int 0) .nil))))) (.cons (.tup (.cons (.lst (.cons (.int 39) (.cons (.int 97) (.cons (.int 92) (.cons (.int 113) (.cons (.int 39) .nil)))))) (.cons (.str "bad_escape") (.cons (.int 2) (.cons (.int 2) .nil))))) (.cons (.tup (.cons (.lst (.cons (.int 34) (.cons (.int 92) (.cons (.int 120) (.cons (.int 52) (.cons (.int 49) (.cons (.int 34) .nil))))))) (.cons (.str "bad_escape") (.cons (.int 1) (.cons (.int 2) .nil))))) (.cons (.tup (.cons (.lst (.cons (.var 1) .nil)) (.cons (.str "undefined_char") (.cons (.int 0) (.cons (.int 2) .nil))))) (.cons (.tup (.cons (.lst (.cons (.int 96) (.cons (.int 98) (.cons (.int 5) (.cons (.int 97) (.cons (.int 96) .nil)))))) (.cons (.str "undefined_char") (.cons (.int 2) (.cons (.int 2) .nil))))) (.cons (.tup (.cons (.lst (.cons (.int 47) (.cons (.int 42) (.cons (.int 97) (.cons (.int 42) .nil))))) (.cons (.str "unfinished_remark") (.cons (.int 0) (.cons (.int 0) .nil))))) (.cons (.tup (.cons (.lst (.cons (.int 49) (.cons (.int 50) (.cons (.int 46) (.cons (.int 53) .nil))))) (.cons (.str "bad_number") (.cons (.int 0) (.cons (.int 1) .nil))))) (.cons (.tup (.cons (.lst (.cons (.int 48) (.cons (.int 39) (.cons (.int 39) .nil)))) (.cons (.str "bad_number") (.cons (.int 0) (.cons (.int 1) .nil))))) .nil))))))))))) (.call "_law_pick" 276 (.cons (.var 0) (.cons (.int 10) .nil))))) .nil))
theorem k_law_faults : chkSs ⟨n_law_faults, f_law_faults.scope⟩ c_law_faults (fBody f_law_faults_st) = true := by decide +kernel
noncomputable def n_law : List Str := ["script", "pool", "wholes", "codes", "due", "last", "step", "row", "kind", "value", "front", "back", "must", "gap", "at", "fault", "within", "after", "skipping", "fault_at", "behind", "base", "handed", "tokenizer", "token", "told", "error", "end"]
noncomputable def c_law : CSs := (.cons (.asg 1 (.call "_law_pool" 269 (.cons (.var 0) .nil))) (.cons (.asg 2 (.bin .Add (.lst (.cons (.int 0) (.cons (.int 7) (.cons (.int 255) .nil)))) (.wholes (.slice (.var 0) none (some 6) none none)))) (.cons (.asgL 3 .nil) (.cons (.asgL 4 .nil) (.cons (.asg 5 (.str "none")) (.cons (.forR 6 (.bin .Add (.int 1) (.call "_law_pick" 276 (.cons (.var 1) (.cons (.int 8) .nil)))) (.cons (.unp [7, 8, 9, 10, 11] (.call "_law_token" 335 (.cons (.var 1) (.cons (.var 2) .nil)))) (.cons (.asg 12 (.bop .Or (.cons (.cmp .Eq (.var 5) (.str "end")) (.cons (.bop .And (.cons (.cmp .In (.var 5) (.lst (.cons (.str "word") (.cons (.str "int") .nil)))) (.cons (.cmp .Eq (.var 10) (.str "word")) .nil))) .nil)))) (.cons (.asg 12 (.bop .Or (.cons (.var 12) (.cons (.bop .And (.cons (.cmp .Eq (.var 5) (.str "int")) (.cons (.cmp .Eq (.var 10) (.str "39")) .nil))) .nil)))) (.cons (.asg 12 (.bop .Or (.cons (.var 12) (.cons (.bop .And (.cons (.cmp .Eq (.var 5) (.var 10)) (.cons (.cmp .In (.var 5) (.lst (.cons (.str "sign") (.cons (.str "39") (.cons (.str "34") (.cons (.str "96") .nil)))))) .nil))) .nil)))) (.cons (.asg 13 (.call "_law_gap" 342 (.cons (.var 1) (.cons (.var 12) (.cons (.var 5) .nil))))) (.cons (.aug 3 .Add (.var 13)) (.cons (.asg 14 (.len (.var 3))) (.cons (.cif (.bop .And (.cons (.cmp .Eq (.var 8) (.str "open")) (.cons (.cmp .Eq (.var 13) (.lst .nil)) (.cons (.cmp .Gt (.var 14) (.int 0)) .nil)))) (.cons (.asg 8 (.str "open_ct")) .nil) .nil) (.cons (.app 4 (.tup (.cons (.var 8) (.cons (.var 9) (.cons (.var 14) .nil))))) (.cons (.aug 3 .Add (.var 7)) (.cons (.asg 5 (.var 11)) .nil)))))))))))) (.cons (.aug 3 .Add (.call "_law_gap" 342 (.cons (.var 1) (.cons (.bool false) (.cons (.var 5) .nil))))) (.cons (.unp [7, 15, 16, 17] (.call "_law_faults" 356 (.cons (.var 1) .nil))) (.cons (.asg 18 (.bop .Or (.cons (.cmp .Eq (.var 17) (.int 1)) (.cons (.cmp .Eq (.call "_law_pick" 276 (.cons (.var 1) (.cons (.int 2) .nil))) (.int 0)) .nil)))) (.cons (.asg 19 (.int 0)) (.cons (.asgL 20 .nil) (.cons (.cif (.cmp .NotEq (.var 15) (.str "")) (.cons (.app 3 (.int 32)) (.cons (.asg 19 (.bin .Add (.len (.var 3)) (.var 16))) (.cons (.aug 3 .Add (.var 7)) (.cons (.cif (.cmp .Gt (.var 17) (.int 0)) (.cons (.asg 21 (.len (.var 3))) (.cons (.aug 3 .Add (.call "_law_ords" 281 (.cons (.str " zed . yes") .nil))) (.cons (.cif (.not (.var 18)) (.cons (.aug 20 .Add (.lst (.cons (.tup (.cons (.str "name") (.cons (.str "zed") (.cons (.bin .Add (.var 21) (.int 1)) .nil)))) (.cons (.tup (.cons (.str "end") (.cons (.str ".") (.cons (.bin .Add (.var 21) (.int 5)) .nil)))) .nil)))) .nil) .nil) (.cons (.app 20 (.tup (.cons (.str "name") (.cons (.str "yes") (.cons (.bin .Add (.var 21) (.int 7)) .nil))))) .nil)))) .nil) .nil)))) .nil) (.cons (.asg 22 (.slice (.var 3) none none none none)) (.cons (.asg 23 (.newTok (.var 22))) (.cons (.forL 24 (.frz 4) (.cons (.cif (.bop .Or (.cons (.cmp .NotEq (.meth 23 "next" 164 .nil) (.var 24)) (.cons (.cmp .NotEq (.meth 23 "place" 150 (.cons (.sub (.var 24) (.int 2)) .nil)) (.call "_law_place" 349 (.cons (.frz 3) (.cons (.sub (.var 24) (.int 2)) .nil)))) .nil))) (.cons (.ret (.bool false)) .nil) .nil) .nil)) (.cons (.cif (.cmp .NotEq (.var 15) (.str "")) (.cons (.asg 25 .non) (.cons (.tryA (.cons (.asg 25 (.meth 23 "next" 164 .nil)) .nil) 26 (.cons (.asg 25 (.tup (.cons (.attr 26 .kind) (.cons (.attr 26 .at) (.cons (.tup (.cons (.attr 26 .row) (.cons (.attr 26 .column) .nil))) .nil))))) .nil)) (.cons (.cif (.cmp .NotEq (.var 25) (.tup (.cons (.var 15) (.cons (.var 19) (.cons (.call "_law_place" 349 (.cons (.frz 3) (.cons (.var 19) .nil))) .nil))))) (.cons (.ret (.bool false)) .nil) .nil) (.cons (.cif (.cmp .Eq (.var 17) (.int 0)) (.cons (.ret (.cmp .Eq (.var 22) (.var 3))) .nil) .nil) (.cons (.cif (.var 18) (.cons (.exp (.meth 23 "skip_clause" 171 .nil)) .nil) .nil) .nil))))) .nil) (.cons (.forL 24 (.frz 20) (.cons (.cif (.cmp .NotEq (.meth 23 "next" 164 .nil) (.var 24)) (.cons (.ret (.bool false)) .nil) .nil) .nil)) (.cons (.asg 27 (.tup (.cons (.str "eof") (.cons (.str "") (.cons (.len (.var 3)) .nil))))) (.cons (.ret (.bop .And (.cons (.cmp .Eq (.meth 23 "next" 164 .nil) (.var 27)) (.cons (.cmp .Eq (.meth 23 "next" 164 .nil) (.var 27)) (.cons (.cmp .Eq (.var 22) (.var 3)) .nil))))) .nil)))))))))))))))))))
theorem k_law : chkSs ⟨n_law, f_law.scope⟩ c_law (fBody f_law_st) = true := by decide +kernel
end Mine
end

-- E4
section
open PySem PySem.W PyProof.Rows
set_option linter.unusedVariables false
namespace Mine

/-- a traceback's entry -/
noncomputable def TbAt (c : Cx) (g : Gh) (h : Heap) (e T : Addr) (v3 : Value) : Prop :=
  T ≠ e ∧ g.K T = none ∧ T ≠ c.L ∧ (∀ k, g.ad k ≠ some T) ∧ ∃ oT ts, h.get? T = some oT ∧ oT.data = .fields ts ∧ ts[3]? = some v3
/-- an exception object of the text's class, not the ghost's own -/
noncomputable def FlyP (c : Cx) (g : Gh) (h : Heap) (e : Addr) (φ : Phi) (v1 : Value) : Prop :=
  g.K e = none ∧ e ≠ c.L ∧ (∀ k, g.ad k ≠ some e) ∧ ∃ o vs, h.get? e = some o ∧ o.data = .fields vs ∧ FltAt g.z o φ.1 φ.2.1 φ.2.2.1 φ.2.2.2 ∧ vs[1]? = some v1
/-- a fault of the text's class is under way -/
noncomputable def FlyAt (c : Cx) (g : Gh) (h : Heap) (e : Addr) (φ : Phi) : Prop :=
  FlyP c g h e φ .none ∨ ∃ T v3, FlyP c g h e φ (.ref T) ∧ TbAt c g h e T v3 ∧ (v3 = .none ∨ v3 = rawInt c.L)
/-- … and its traceback has an entry -/
noncomputable def FlyN (c : Cx) (g : Gh) (h : Heap) (e : Addr) (φ : Phi) (v3 : Value) : Prop := ∃ T, FlyP c g h e φ (.ref T) ∧ TbAt c g h e T v3

noncomputable def Ok {α β : Type} (R : Gh → α → β → Prop) (c : Cx) (g : Gh) (Q : β → AS → Prop) (Q' : α → Shared → Prop) : Prop :=
  ∀ v a σ' g' s', g.le g' → Inv c g' σ' s' → R g' v a → Q a σ' → Q' v s'
noncomputable def Bad (c : Cx) (g : Gh) (X : Phi → AS → Prop) (E' : Value → Shared → Prop) : Prop :=
  ∀ e φ σ' g' s', g.le g' → Inv c g' σ' s' → FlyAt c g' s'.heap e φ → X φ σ' → E' (.ref e) s'
noncomputable def Ev {α β : Type} (R : Gh → α → β → Prop) (c : Cx) (t : Sem α) (σ : AS) (Q : β → AS → Prop) (X : Phi → AS → Prop) : Prop :=
  ∀ g s (Q' : α → Shared → Prop) (E' : Value → Shared → Prop), Inv c g σ s → Ok R c g Q Q' → Bad c g X E' → wpAny c.M c.A t Q' E' s

theorem Ok.le {α β : Type} {R : Gh → α → β → Prop} {c : Cx} {g g1 : Gh} {Q : β → AS → Prop} {Q' : α → Shared → Prop} (h : Ok R c g Q Q') (l : g.le g1) : Ok R c g1 Q Q' :=
  fun v a σ' g' s' l' => h v a σ' g' s' (l.trans l')
theorem Bad.le {c : Cx} {g g1 : Gh} {X : Phi → AS → Prop} {E' : Value → Shared → Prop} (h : Bad c g X E') (l : g.le g1) : Bad c g1 X E' :=
  fun e φ σ' g' s' l' => h e φ σ' g' s' (l.trans l')

section
variable {c : Cx} {σ : AS} {X : Phi → AS → Prop} {g : Gh} {s : Shared}

theorem Inv.get {i : Nat} {a : AV} (I : Inv c g σ s) (h : σ.get i = some a) : ∃ m, s.heap.Ns c.L m ∧ ∀ x, c.names[i]? = some x → ∃ v, m x = some v ∧ RV g v a := by
  obtain ⟨m, h1, h2⟩ := I.loc
  refine ⟨m, h1, fun x hx => h2 i x a hx ?_⟩
  unfold AS.get at h
  cases hv : σ.vars[i]? with
  | none => rw [hv] at h; cases h
  | some o => rw [hv] at h; cases o with
    | none => cases h
    | some b => cases h; rfl

/-- a local name is read -/
theorem ev_loc (ok : CxOk c) {i : Nat} {x : Str} {pos : Pos} {a : AV} {Q' : Value → Shared → Prop} {E' : Value → Shared → Prop} (I : Inv c g σ s) (hx : c.names[i]? = some x) (ha : σ.get i = some a)
    (h : ∀ v, RV g v a → Q' v s) : wpAny c.M c.A (eval (.Name x pos) c.env) Q' E' s := by
  obtain ⟨m, hm, hv⟩ := I.get ha
  obtain ⟨v, h1, h2⟩ := hv x hx
  obtain ⟨k1, k2⟩ := ok.isLoc x (List.mem_of_getElem? hx)
  exact wpAny_Name (wpAny_loadName_local ok.kind k1 (ok.loc ▸ hm) h1 (h v h2)) k2
theorem ev_loadLoc (ok : CxOk c) {i : Nat} {x : Str} {a : AV} {Q' : Value → Shared → Prop} {E' : Value → Shared → Prop} (I : Inv c g σ s) (hx : c.names[i]? = some x) (ha : σ.get i = some a)
    (h : ∀ v, RV g v a → Q' v s) : wpAny c.M c.A (loadName c.env x) Q' E' s := by
  obtain ⟨m, hm, hv⟩ := I.get ha
  obtain ⟨v, h1, h2⟩ := hv x hx
  obtain ⟨k1, k2⟩ := ok.isLoc x (List.mem_of_getElem? hx)
  exact wpAny_loadName_local ok.kind k1 (ok.loc ▸ hm) h1 (h v h2)

theorem isLoc_name {S : Sc} {i : Nat} {e : Expr} (h : isLoc S i e = true) : ∃ x p, e = .Name x p ∧ S.nm[i]? = some x := by
  unfold isLoc at h
  split at h
  · exact ⟨_, _, rfl, by simpa using h⟩
  · cases h
theorem isGlob_name {S : Sc} {x : Str} {e : Expr} (h : isGlob S x e = true) : ∃ p, e = .Name x p ∧ S.sc.names.lookup x = some .globalImplicit ∧ (x == ("__debug__" : Str)) = false := by
  unfold isGlob at h
  split at h
  · simp only [Bool.and_eq_true, beq_iff_eq, bne_iff_ne, ne_eq] at h
    obtain ⟨⟨rfl, h2⟩, h3⟩ := h
    exact ⟨_, rfl, h2, by simpa using h3⟩
  · cases h

/-- a global name of the text -/
theorem ev_glob (ok : CxOk c) {x : Str} {pos : Pos} {v : Value} {Q' : Value → Shared → Prop} {E' : Value → Shared → Prop} (I : Inv c g σ s) (hk : c.env.scope.names.lookup x = some .globalImplicit) (hd : (x == ("__debug__" : Str)) = false)
    (hv : c.W.mg x = some v) (h : Q' v s) : wpAny c.M c.A (eval (.Name x pos) c.env) Q' E' s := by
  refine Calls.Name_function_global ok.kind hk (Calls.loadGlobal_global (mg := c.W.mg) ?_ hv h) hd
  rw [ok.glob]
  exact c.W.G.keeps fun b o e => I.zin _ _ (I.base _ _ e)
theorem ev_built (ok : CxOk c) {x : Str} {pos : Pos} {v : Value} {Q' : Value → Shared → Prop} {E' : Value → Shared → Prop} (I : Inv c g σ s) (hk : c.env.scope.names.lookup x = some .globalImplicit) (hd : (x == ("__debug__" : Str)) = false)
    (hn : c.W.mg x = none) (hne : x ≠ "__name__") (hv : bootBuiltins x = some v) (h : Q' v s) : wpAny c.M c.A (eval (.Name x pos) c.env) Q' E' s := by
  refine Calls.Name_function_global ok.kind hk (Calls.loadGlobal_builtin (mg := c.W.mg) (mb := c.W.mb) ?_ hn ?_ ((c.W.boot x hne).trans hv) h) hd
  · rw [ok.glob]
    exact c.W.G.keeps fun b o e => I.zin _ _ (I.base _ _ e)
  · rw [ok.blt]
    exact c.W.B.keeps fun b o e => I.zin _ _ (I.base _ _ e)
end
end Mine
end

-- E5
section
open PySem PySem.W PyProof.Rows
set_option linter.unusedVariables false
namespace Mine

section
variable {c : Cx} {σ : AS} {X : Phi → AS → Prop} {g : Gh} {s : Shared}

theorem Inv.items {v : Value} {a : AV} {xs : List AV} (I : Inv c g σ s) (r : RV g v a) (h : σ.items a = some xs) : ∃ l vs n, v = .ref l ∧ IsL s.heap l (List.toArray vs) n ∧ RVs g vs xs := by
  cases r with
  | lst h1 h2 => cases h; exact ⟨_, _, _, rfl, I.zin _ _ h1, h2⟩
  | @ref b k hk =>
    unfold AS.items at h
    cases hC : σ.cells[k]? with
    | none => simp only [hC] at h; cases h
    | some C =>
      simp only [hC] at h
      cases C with
      | lst ys =>
        cases h
        obtain ⟨b', q1, _, _, vs, n, q4, q5⟩ := I.cells k _ hC rfl
        rw [hk] at q1; cases q1
        exact ⟨b, vs, n, rfl, q4, q5⟩
      | _ => cases h
  | _ => cases h

theorem Inv.seqT {v : Value} {xs : List AV} (I : Inv c g σ s) (r : RV g v (.tup xs)) : ∃ l vs n, v = .ref l ∧ IsT s.heap l (List.toArray vs) n ∧ RVs g vs xs := by
  cases r with
  | tup h1 h2 => exact ⟨_, _, _, rfl, I.zin _ _ h1, h2⟩

theorem RV.int_inv {v : Value} {i : Int} (r : RV g v (.int i)) : ∃ t, v = .int i t := by cases r; exact ⟨_, rfl⟩
theorem RV.str_inv {v : Value} {x : Str} (r : RV g v (.str x)) : ∃ t, v = .str x t := by cases r; exact ⟨_, rfl⟩
theorem RV.bool_inv {v : Value} {b : Bool} (r : RV g v (.bool b)) : v = .bool b := by cases r; rfl

/-- what an operation's end wants -/
theorem Ok.here {β : Type} {R : Gh → Value → β → Prop} {Q : β → AS → Prop} {Q' : Value → Shared → Prop} (h : Ok R c g Q Q') (I : Inv c g σ s) {v : Value} {a : β} (r : R g v a) (q : Q a σ) (t : Nat) : Q' v { s with toks := t } :=
  h v a σ g _ (.refl g) (I.toks t) r q

/-- a new tuple -/
theorem Ok.tuple {Q : AV → AS → Prop} {Q' : Value → Shared → Prop} (h : Ok RV c g Q Q') (I : Inv c g σ s) {vs : List Value} {xs : List AV} (r : RVs g vs xs) (q : Q (.tup xs) σ) (t : Nat) :
    Q' (.ref s.heap.objs.size) { s with heap := s.heap.push { cls := .type "tuple", data := .seq vs.toArray }, toks := t } :=
  h _ _ _ _ _ (I.le_add _) ((I.alloc rfl).toks t) (.tup (Gh.add_z _ _ _) (r.le (I.le_add _))) q
theorem Ok.list {Q : AV → AS → Prop} {Q' : Value → Shared → Prop} (h : Ok RV c g Q Q') (I : Inv c g σ s) {vs : List Value} {xs : List AV} (r : RVs g vs xs) (q : Q (.lst xs) σ) (t : Nat) :
    Q' (.ref s.heap.objs.size) { s with heap := s.heap.push { cls := .type "list", data := .seq vs.toArray }, toks := t } :=
  h _ _ _ _ _ (I.le_add _) ((I.alloc rfl).toks t) (.lst (Gh.add_z _ _ _) (r.le (I.le_add _))) q

theorem sizeLine_val : sizeLine = 16777216 := by decide

theorem RVs.replicate {v : Value} {x : AV} (r : RV g v x) : ∀ n : Nat, RVs g (List.replicate n v) (List.replicate n x)
  | 0 => .nil
  | n + 1 => by rw [List.replicate_succ, List.replicate_succ]; exact .cons r (RVs.replicate r n)

theorem foldl_rep (v : Value) : ∀ (n : Nat) (acc : Array Value), List.foldl (fun x1 x2 => x1 ++ x2) acc (List.replicate n #[v]) = acc ++ (List.replicate n v).toArray
  | 0, acc => by simp
  | n + 1, acc => by rw [List.replicate_succ, List.foldl_cons, foldl_rep v n, List.replicate_succ]; exact Array.toList_inj.mp (by simp)

theorem ev_mulList {l : Addr} {v : Value} {k : Nat} {x : Int} {u : Tok} {Q : Value → Shared → Prop} {E : Value → Shared → Prop}
    (hl : IsL s.heap l #[v] k) (h0 : 0 ≤ x) (h1 : x ≤ 1000)
    (h : Q (.ref s.heap.objs.size) { s with heap := s.heap.push { cls := .type "list", data := .seq (List.replicate x.toNat v).toArray } }) : wpAny c.M c.A (binaryOp .Mult (.ref l) (.int x u)) Q E s := by
  refine wpAny_binaryOp_repeat_ref (T := "list") (U := "int") (by decide) ⟨_, hl, rfl⟩ (fun s' => typeIs_int s' x u) noFill_list_mul F.fills_int_mul F.slot_int_rmul repeat_list F.slot_int_index.lookup
    (call_meets F.slot_int_rmul (typeIs_int s x u) F.entry_int_rmul (F.args_int_rmul_2 _ _) (int___rmul___int_list x u l #[v] k)
      ⟨hl, rfl, ⟨_, hl, rfl⟩, call_meets F.slot_list_mul ⟨_, hl, rfl⟩ F.entry_list_mul (F.args_list_mul_2 _ _)
        (AutoListH.list___mul___list_int_3 l #[v] k x u (by simp [Builtin.List.listFitsIndex]; lia) (by have : (#[v] : Array Value).size = 1 := rfl; rw [this]; lia) (by simp [Builtin.List.listTooLong, sizeLine]; lia))
        ⟨hl, ?_⟩⟩)
  have e : List.foldl (fun x1 x2 => x1 ++ x2) #[] (List.replicate (if (#[v] : Array Value).isEmpty = true then 0 else x.toNat) #[v]) = (List.replicate x.toNat v).toArray := by
    rw [foldl_rep]; simp
  rw [e]
  exact h

theorem int2_el {a b : AV} {k : Int → Int → Prop} {G : Prop} (h : int2 a b k) (f : ∀ x y, a = .int x → b = .int y → k x y → G) : G := by
  cases a with
  | int x => cases b with
    | int y => exact f x y rfl rfl h
    | _ => exact False.elim h
  | _ => exact False.elim h
theorem addL_sound {a b : AV} {u v : Value} {P' : AV → Prop} {Q' : Value → Shared → Prop} {E' : Value → Shared → Prop} (I : Inv c g σ s) (ru : RV g u a) (rv : RV g v b) (h : addL σ a b P')
    (k : Ok RV c g (fun r σ' => σ' = σ ∧ P' r) Q') : wpAny c.M c.A (binaryOp .Add u v) Q' E' s := by
  unfold addL at h
  cases hx : σ.items a with
  | none => rw [hx] at h; exact False.elim h
  | some xs => cases hy : σ.items b with
    | none => rw [hx, hy] at h; exact False.elim h
    | some ys =>
      rw [hx, hy] at h
      obtain ⟨l, vs, n, rfl, h1, h2⟩ := I.items ru hx
      obtain ⟨l', vs', n', rfl, h1', h2'⟩ := I.items rv hy
      refine P.add_list h1 h1' ?_ (by rw [List.size_toArray, List.size_toArray, h2.length, h2'.length]; exact h.1)
      have := k.list I (h2.append h2') ⟨rfl, h.2⟩ s.toks
      rw [List.append_toArray]; exact this
theorem addS_sound {a b : AV} {u v : Value} {P' : AV → Prop} {Q' : Value → Shared → Prop} {E' : Value → Shared → Prop} (I : Inv c g σ s) (ru : RV g u a) (rv : RV g v b) (h : addS σ a b P')
    (k : Ok RV c g (fun r σ' => σ' = σ ∧ P' r) Q') : wpAny c.M c.A (binaryOp .Add u v) Q' E' s := by
  cases a with
  | int x => cases b with
    | int y =>
      obtain ⟨t, rfl⟩ := ru.int_inv; obtain ⟨t', rfl⟩ := rv.int_inv
      exact add_int (k.here I (.int _ _) ⟨rfl, h⟩ _)
    | _ => exact False.elim h
  | str x => cases b with
    | str y =>
      obtain ⟨t, rfl⟩ := ru.str_inv; obtain ⟨t', rfl⟩ := rv.str_inv
      exact PyProof.Rows.add_str (fun t' tk => k.here I (.str _ _) ⟨rfl, h.2⟩ _) h.1
    | _ => exact False.elim h
  | _ => exact addL_sound I ru rv h k
theorem mulS_sound {a b : AV} {u v : Value} {P' : AV → Prop} {Q' : Value → Shared → Prop} {E' : Value → Shared → Prop} (I : Inv c g σ s) (ru : RV g u a) (rv : RV g v b) (h : mulS a b P')
    (k : Ok RV c g (fun r σ' => σ' = σ ∧ P' r) Q') : wpAny c.M c.A (binaryOp .Mult u v) Q' E' s := by
  cases a with
  | int x => cases b with
    | int y =>
      obtain ⟨t, rfl⟩ := ru.int_inv; obtain ⟨t', rfl⟩ := rv.int_inv
      exact mul_int (k.here I (.int _ _) ⟨rfl, h.2⟩ _) h.1
    | _ => exact False.elim h
  | lst xs => cases xs with
    | nil => exact False.elim h
    | cons x xs => cases xs with
      | nil => cases b with
        | int n =>
          obtain ⟨t', rfl⟩ := rv.int_inv
          cases ru with
          | lst h1 h2 =>
            cases h2 with
            | cons r1 r2 =>
              cases r2
              exact ev_mulList (I.zin _ _ h1) h.1 h.2.1 (k.list I (RVs.replicate r1 _) ⟨rfl, h.2.2⟩ s.toks)
        | _ => exact False.elim h
      | cons _ _ => exact False.elim h
  | _ => exact False.elim h
theorem binS_sound (op : Operator) {a b : AV} {u v : Value} {P' : AV → Prop} {Q' : Value → Shared → Prop} {E' : Value → Shared → Prop} (I : Inv c g σ s) (ru : RV g u a) (rv : RV g v b) (h : binS op σ a b P')
    (k : Ok RV c g (fun r σ' => σ' = σ ∧ P' r) Q') : wpAny c.M c.A (binaryOp op u v) Q' E' s := by
  cases op with
  | Add => exact addS_sound I ru rv h k
  | Sub =>
    exact int2_el h fun x y e1 e2 h => by
      subst e1 e2; obtain ⟨t, rfl⟩ := ru.int_inv; obtain ⟨t', rfl⟩ := rv.int_inv
      exact sub_int (k.here I (.int _ _) ⟨rfl, h⟩ _)
  | Mult => exact mulS_sound I ru rv h k
  | FloorDiv =>
    exact int2_el h fun x y e1 e2 h => by
      subst e1 e2; obtain ⟨t, rfl⟩ := ru.int_inv; obtain ⟨t', rfl⟩ := rv.int_inv
      exact floordiv_int (Int.ne_of_gt h.1) (k.here I (.int _ _) ⟨rfl, h.2.2⟩ _) (Or.inl (PyProof.noPylong_small (by lia)))
  | Mod =>
    exact int2_el h fun x y e1 e2 h => by
      subst e1 e2; obtain ⟨t, rfl⟩ := ru.int_inv; obtain ⟨t', rfl⟩ := rv.int_inv
      exact mod_int' h.1 (k.here I (.int _ _) ⟨rfl, h.2⟩ _)
  | _ => exact False.elim h
end
end Mine
end

-- E6
section
open PySem PySem.W PyProof.Rows
set_option linter.unusedVariables false
namespace Mine

theorem reads_of {g : Gh} {h : Heap} (hz : ∀ a o, g.z a = some o → h.get? a = some o) {v : Value} {a : AV} {d : PyData} (r : RV g v a) (e : a.pd = some d) : ∃ as, Reads h v d as :=
  RV.rec (motive_1 := fun v a _ => ∀ {d : PyData}, a.pd = some d → ∃ as, Reads h v d as) (motive_2 := fun vs xs _ => ∀ {ds : List PyData}, AV.pdL xs = some ds → ∃ as, ReadsAll h vs ds as)
    (fun e => by cases e; exact ⟨_, .none⟩) (fun b => fun e => by cases e; exact ⟨_, .bool b⟩) (fun i t => fun e => by cases e; exact ⟨_, .int i t⟩) (fun x t => fun e => by cases e; exact ⟨_, .str x t⟩)
    (fun h1 _ ih => fun e => by
      obtain ⟨ds, e1, rfl⟩ := Option.map_eq_some_iff.mp (show Option.map PyData.tuple (AV.pdL _) = _ from e)
      obtain ⟨as, r⟩ := ih e1
      exact ⟨_, .tuple (hz _ _ h1) rfl rfl r⟩)
    (fun h1 _ ih => fun e => by
      obtain ⟨ds, e1, rfl⟩ := Option.map_eq_some_iff.mp (show Option.map PyData.list (AV.pdL _) = _ from e)
      obtain ⟨as, r⟩ := ih e1
      exact ⟨_, .list (hz _ _ h1) rfl rfl r⟩)
    (fun _ => fun e => by cases e) (fun _ _ => fun e => by cases e) (fun _ _ => fun e => by cases e)
    (fun e => by cases e; exact ⟨_, .nil⟩)
    (fun {v vs x xs} _ _ ih1 ih2 => by
      intro ds e
      have e : (match x.pd, AV.pdL xs with | some d, some ds => some (d :: ds) | _, _ => none) = some ds := e
      cases e1 : x.pd with
      | none => rw [e1] at e; cases e
      | some d => cases e2 : AV.pdL xs with
        | none => rw [e1, e2] at e; cases e
        | some ds =>
          rw [e1, e2] at e; cases e
          obtain ⟨as, q⟩ := ih1 e1
          obtain ⟨bs, qs⟩ := ih2 e2
          exact ⟨_, .cons q qs⟩) r e
theorem readsL_of {g : Gh} {h : Heap} (hz : ∀ a o, g.z a = some o → h.get? a = some o) {vs : List Value} {xs : List AV} {ds : List PyData} (r : RVs g vs xs) (e : AV.pdL xs = some ds) : ∃ as, ReadsAll h vs ds as :=
  RVs.ind (M := fun vs xs => ∀ {ds : List PyData}, AV.pdL xs = some ds → ∃ as, ReadsAll h vs ds as) (fun e => by cases e; exact ⟨_, .nil⟩) (fun {v vs x xs} r1 _ ih2 => by
      intro ds e
      have e : (match x.pd, AV.pdL xs with | some d, some ds => some (d :: ds) | _, _ => none) = some ds := e
      cases e1 : x.pd with
      | none => rw [e1] at e; cases e
      | some d => cases e2 : AV.pdL xs with
        | none => rw [e1, e2] at e; cases e
        | some ds =>
          rw [e1, e2] at e; cases e
          obtain ⟨as, q⟩ := reads_of hz r1 e1
          obtain ⟨bs, qs⟩ := ih2 e2
          exact ⟨_, .cons q qs⟩) r e

theorem intsAre_of {g : Gh} : ∀ {vs : List Value} {ns : List Int}, RVs g vs (ns.map .int) → IntsAre vs ns
  | _, [], .nil => .nil
  | _, n :: ns, .cons r rs => by obtain ⟨t, rfl⟩ := r.int_inv; exact .cons n t (intsAre_of rs)
theorem strsAre_of {g : Gh} : ∀ {vs : List Value} {ns : List Str}, RVs g vs (ns.map .str) → StrsAre vs ns
  | _, [], .nil => .nil
  | _, n :: ns, .cons r rs => by obtain ⟨t, rfl⟩ := r.str_inv; exact .cons n t (strsAre_of rs)

section
variable {c : Cx} {σ : AS} {X : Phi → AS → Prop} {g : Gh} {s : Shared}

theorem Inv.data {v : Value} {a : AV} {d : PyData} (I : Inv c g σ s) (r : RV g v a) (e : σ.data a = some d) : ∃ as, Reads s.heap v d as := by
  unfold AS.data at e
  split at e
  · rename_i k
    split at e
    · rename_i xs hC
      cases r with
      | ref hk =>
        obtain ⟨ds, e1, rfl⟩ := Option.map_eq_some_iff.mp e
        obtain ⟨b', q1, _, _, vs, n, q4, q5⟩ := I.cells k _ hC rfl
        rw [hk] at q1; cases q1
        obtain ⟨as, r⟩ := readsL_of I.zin q5 e1
        exact ⟨_, .list q4 rfl rfl r⟩
    · cases e
  · exact reads_of I.zin r e

theorem eqP_el {neg : Bool} {o o' : Option PyData} {Q : Bool → Prop} {G : Prop} (h : eqP neg o o' Q)
    (f : ∀ d d', o = some d → o' = some d' → d.canLay0 = true → d'.canLay0 = true → min d.depth d'.depth ≤ 10 → Q (if neg then !PyData.eqv d d' else PyData.eqv d d') → G) : G := by
  cases o with
  | none => exact False.elim h
  | some d => cases o' with
    | none => exact False.elim h
    | some d' => exact f d d' rfl rfl h.1 h.2.1 h.2.2.1 h.2.2.2
theorem cmpS_sound (ok : CxOk c) (op : CmpOp) {a b : AV} {u v : Value} {P' : Bool → Prop} {Q' : Value → Shared → Prop} {E' : Value → Shared → Prop} (I : Inv c g σ s) (ru : RV g u a) (rv : RV g v b) (h : cmpS op σ a b P')
    (k : Ok RV c g (fun r σ' => σ' = σ ∧ ∃ b, r = .bool b ∧ P' b) Q') : wpAny c.M c.A (compareOp op u v) Q' E' s := by
  have hu : ∀ m, m ≤ 10 → c.A.units + m < cLine := fun m hm => by have := ok.units; lia
  have fin : ∀ b, P' b → Q' (.bool b) s := fun b hb => k.here I (.bool b) ⟨rfl, b, rfl, hb⟩ s.toks
  have eq : eqP false (σ.data a) (σ.data b) P' → wpAny c.M c.A (compareOp .Eq u v) Q' E' s := fun h => eqP_el h fun d d' e1 e2 q1 q2 q3 q4 => by
    obtain ⟨as, r1⟩ := I.data ru e1
    obtain ⟨bs, r2⟩ := I.data rv e2
    exact SeqAt.compareEq_reads r1 r2 q1 q2 (hu _ q3) (fin _ q4)
  have ne : eqP true (σ.data a) (σ.data b) P' → wpAny c.M c.A (compareOp .NotEq u v) Q' E' s := fun h => eqP_el h fun d d' e1 e2 q1 q2 q3 q4 => by
    obtain ⟨as, r1⟩ := I.data ru e1
    obtain ⟨bs, r2⟩ := I.data rv e2
    exact SeqAt.compareNe_reads r1 r2 q1 q2 (hu _ q3) (fin _ q4)
  cases op with
  | Lt =>
    exact int2_el h fun x y e1 e2 h => by
      subst e1 e2; obtain ⟨t, rfl⟩ := ru.int_inv; obtain ⟨t', rfl⟩ := rv.int_inv
      exact lt_int (fin _ h)
  | LtE =>
    exact int2_el h fun x y e1 e2 h => by
      subst e1 e2; obtain ⟨t, rfl⟩ := ru.int_inv; obtain ⟨t', rfl⟩ := rv.int_inv
      exact le_int (fin _ h)
  | Gt =>
    exact int2_el h fun x y e1 e2 h => by
      subst e1 e2; obtain ⟨t, rfl⟩ := ru.int_inv; obtain ⟨t', rfl⟩ := rv.int_inv
      exact gt_int (fin _ h)
  | GtE =>
    exact int2_el h fun x y e1 e2 h => by
      subst e1 e2; obtain ⟨t, rfl⟩ := ru.int_inv; obtain ⟨t', rfl⟩ := rv.int_inv
      exact ge_int (fin _ h)
  | Eq =>
    cases a with
    | int x => cases b with
      | int y =>
        obtain ⟨t, rfl⟩ := ru.int_inv; obtain ⟨t', rfl⟩ := rv.int_inv
        exact eq_int (fin _ h)
      | _ => exact eq h
    | str x => cases b with
      | str y =>
        obtain ⟨t, rfl⟩ := ru.str_inv; obtain ⟨t', rfl⟩ := rv.str_inv
        exact eq_str (fin _ h)
      | _ => exact eq h
    | _ => exact eq h
  | NotEq =>
    cases a with
    | int x => cases b with
      | int y =>
        obtain ⟨t, rfl⟩ := ru.int_inv; obtain ⟨t', rfl⟩ := rv.int_inv
        exact ne_int (fin _ h)
      | _ => exact ne h
    | _ => exact ne h
  | In =>
    cases a with
    | str x => cases b with
      | str y =>
        obtain ⟨t, rfl⟩ := ru.str_inv; obtain ⟨t', rfl⟩ := rv.str_inv
        exact in_str (fin _ h)
      | lst ys =>
        obtain ⟨ns, rfl, h⟩ := h
        obtain ⟨t, rfl⟩ := ru.str_inv
        obtain ⟨l, vs, n, rfl, h1, h2⟩ := I.items rv rfl
        exact in_list_strs h1.isList (strsAre_of h2) (fin _ h)
      | _ => exact False.elim h
    | int x => cases b with
      | lst ys =>
        obtain ⟨ns, rfl, h⟩ := h
        obtain ⟨t, rfl⟩ := ru.int_inv
        obtain ⟨l, vs, n, rfl, h1, h2⟩ := I.items rv rfl
        exact in_list_ints h1.isList (intsAre_of h2) (fin _ h)
      | _ => exact False.elim h
    | _ => exact False.elim h
  | _ => exact False.elim h
end
end Mine
end

-- E7
section
open PySem PySem.W PyProof.Rows
set_option linter.unusedVariables false
set_option maxRecDepth 100000
namespace Mine

theorem lookup_mem {α : Type} {x : Str} {a : α} : ∀ {l : List (Str × α)}, l.lookup x = some a → (x, a) ∈ l
  | (y, b) :: r, h => by
    rw [List.lookup_cons] at h
    split at h
    · rename_i q; cases h; rw [beq_iff_eq.mp q]; exact .head _
    · exact .tail _ (lookup_mem h)

theorem all_globs (P : Params) : ∀ p ∈ globs, nsIn (KF P) mainGlobals p.1 = some (some (.ref p.2)) := by
  unfold globs
  repeat (first | exact List.forall_mem_nil _ | (refine List.forall_mem_cons.mpr ⟨by kernel_rfl, ?_⟩))
theorem all_meths (P : Params) : ∀ p ∈ meths, findIn (KF P) (.ref tokC) p.1 = some (some (.ref p.2)) := by
  unfold meths
  repeat (first | exact List.forall_mem_nil _ | (refine List.forall_mem_cons.mpr ⟨by kernel_rfl, ?_⟩))
noncomputable def isInt (o : Option (Option Value)) (n : Int) : Bool := match o with
  | some (some (.int m _)) => m == n
  | _ => false
theorem isInt_spec {o : Option (Option Value)} {n : Int} (h : isInt o n = true) : ∃ t, o = some (some (.int n t)) := by
  unfold isInt at h
  split at h
  · rename_i m t; rw [beq_iff_eq.mp h]; exact ⟨t, rfl⟩
  · cases h
theorem all_gints (P : Params) : ∀ p ∈ gints, isInt (nsIn (KF P) mainGlobals p.1) p.2 = true := by
  unfold gints
  repeat (first | exact List.forall_mem_nil _ | (refine List.forall_mem_cons.mpr ⟨by kernel_rfl, ?_⟩))

section
variable (W : Wd)
theorem Wd.glob {x : Str} {a : Addr} (h : globs.lookup x = some a) : W.mg x = some (.ref a) := mg_of W.KI W.G (all_globs _ _ (lookup_mem h))
theorem Wd.gint {x : Str} {n : Int} (h : gints.lookup x = some n) : ∃ t, W.mg x = some (.int n t) := by
  obtain ⟨t, e⟩ := isInt_spec (all_gints W.w.params _ (lookup_mem h))
  exact ⟨t, mg_of W.KI W.G e⟩
theorem Wd.tok : W.mg "Tokenizer" = some (.ref tokC) := mg_of W.KI W.G (by kernel_rfl)
theorem Wd.flt : W.mg "SyntaxFault" = some (.ref fltC) := mg_of W.KI W.G (by kernel_rfl)
theorem Wd.n_len : W.mg "len" = none := mg_none_of W.KI W.G (by kernel_rfl)
theorem Wd.n_chr : W.mg "chr" = none := mg_none_of W.KI W.G (by kernel_rfl)
theorem Wd.n_ord : W.mg "ord" = none := mg_none_of W.KI W.G (by kernel_rfl)
theorem Wd.n_abs : W.mg "abs" = none := mg_none_of W.KI W.G (by kernel_rfl)
theorem Wd.n_int : W.mg "int" = none := mg_none_of W.KI W.G (by kernel_rfl)
theorem Wd.n_max : W.mg "max" = none := mg_none_of W.KI W.G (by kernel_rfl)
theorem Wd.n_tuple : W.mg "tuple" = none := mg_none_of W.KI W.G (by kernel_rfl)
theorem Wd.n_range : W.mg "range" = none := mg_none_of W.KI W.G (by kernel_rfl)
end
end Mine
end

-- E8
section
open PySem PySem.W PyProof.Rows
set_option linter.unusedVariables false
set_option maxRecDepth 100000
namespace Mine

theorem b_len : bootBuiltins "len" = some (.builtin "len") := by kernel_rfl
theorem b_chr : bootBuiltins "chr" = some (.builtin "chr") := by kernel_rfl
theorem b_ord : bootBuiltins "ord" = some (.builtin "ord") := by kernel_rfl
theorem b_abs : bootBuiltins "abs" = some (.builtin "abs") := by kernel_rfl
theorem b_max : bootBuiltins "max" = some (.builtin "max") := by kernel_rfl
theorem b_int : bootBuiltins "int" = some (.type "int") := by kernel_rfl
theorem b_tuple : bootBuiltins "tuple" = some (.type "tuple") := by kernel_rfl
theorem b_range : bootBuiltins "range" = some (.type "range") := by kernel_rfl

noncomputable def isFnObj (o : Option Obj) : Bool := match o with
  | some ⟨.type t, none, .func _, _⟩ => t == "function"
  | _ => false
theorem isFnObj_spec {o : Option Obj} (h : isFnObj o = true) : ∃ fd sl, o = some ⟨.type "function", none, .func fd, sl⟩ := by
  unfold isFnObj at h
  split at h
  · rename_i t fd sl; rw [beq_iff_eq.mp h]; exact ⟨fd, sl, rfl⟩
  · cases h
theorem all_fns (P : Params) : ∀ p ∈ globs ++ meths, isFnObj ((KF P).lookup p.2) = true := by
  unfold globs meths
  show ∀ p ∈ ([_, _, _, _, _, _, _, _, _, _, _, _, _, _, _, _, _, _, _, _, _, _, _, _, _, _, _, _, _, _, _, _, _, _, _, _, _, _, _, _, _, _] : List (Str × Addr)), _
  repeat (first | exact List.forall_mem_nil _ | (refine List.forall_mem_cons.mpr ⟨by kernel_rfl, ?_⟩))

/-- no starred argument -/
noncomputable def notStar (env : Env) (e : Expr) : Prop := ∀ r, starEach (e :: r) env = (false, eval e env) :: starEach r env
theorem notStar_of (env : Env) (e : Expr) (h : (match e with | .Starred .. => false | _ => true) = true) : notStar env e := by
  intro r
  cases e <;> first | rfl | cases h

section
variable {c : Cx} {σ : AS} {X : Phi → AS → Prop} {g : Gh} {s : Shared}

theorem Inv.KIn (I : Inv c g σ s) : (KF c.W.w.params).In s.heap := c.W.KI.keeps fun b o e => I.zin _ _ (I.base _ _ e)
theorem Inv.lim (I : Inv c g σ s) : s.heap.NoLimit := c.W.lim.keeps fun b o e => I.zin _ _ (I.base _ _ e)

theorem ev_callB (ok : CxOk c) {x : Str} {id : String} {e : Expr} {p pos : Pos} {Q' : Value → Shared → Prop} {E' : Value → Shared → Prop} (I : Inv c g σ s) (hk : c.env.scope.names.lookup x = some .globalImplicit) (hd : (x == ("__debug__" : Str)) = false)
    (hn : c.W.mg x = none) (hne : x ≠ "__name__") (hb : bootBuiltins x = some (.builtin id)) (he : notStar c.env e)
    (h : wpAny c.M c.A (eval e c.env) (fun v s1 => wpAny c.M c.A (call (.builtin id) [v]) Q' E' s1) E' s) : wpAny c.M c.A (eval (.Call (.Name x p) [e] [] pos) c.env) Q' E' s :=
  Call_ (ev_built ok I hk hd hn hne hb (callWith_builtin1 (args_cons (wpAny_mono h (fun v s1 h1 => args_nil h1) fun _ _ x => x) (he _)) (he _)))
theorem ev_callT (ok : CxOk c) {x : Str} {id : String} {e : Expr} {p pos : Pos} {Q' : Value → Shared → Prop} {E' : Value → Shared → Prop} (I : Inv c g σ s) (hk : c.env.scope.names.lookup x = some .globalImplicit) (hd : (x == ("__debug__" : Str)) = false)
    (hn : c.W.mg x = none) (hne : x ≠ "__name__") (hb : bootBuiltins x = some (.type id)) (he : notStar c.env e)
    (h : wpAny c.M c.A (eval e c.env) (fun v s1 => wpAny c.M c.A (call (.type id) [v]) Q' E' s1) E' s) : wpAny c.M c.A (eval (.Call (.Name x p) [e] [] pos) c.env) Q' E' s :=
  Call_ (ev_built ok I hk hd hn hne hb (callWith_type1 (args_cons (wpAny_mono h (fun v s1 h1 => args_nil h1) fun _ _ x => x) (he _)) (he _)))
theorem ev_callB2 (ok : CxOk c) {x : Str} {id : String} {e e2 : Expr} {p pos : Pos} {Q' : Value → Shared → Prop} {E' : Value → Shared → Prop} (I : Inv c g σ s) (hk : c.env.scope.names.lookup x = some .globalImplicit) (hd : (x == ("__debug__" : Str)) = false)
    (hn : c.W.mg x = none) (hne : x ≠ "__name__") (hb : bootBuiltins x = some (.builtin id)) (he : notStar c.env e) (he2 : notStar c.env e2)
    (h : wpAny c.M c.A (eval e c.env) (fun v s1 => wpAny c.M c.A (eval e2 c.env) (fun v2 s2 => wpAny c.M c.A (call (.builtin id) [v, v2]) Q' E' s2) E' s1) E' s) : wpAny c.M c.A (eval (.Call (.Name x p) [e, e2] [] pos) c.env) Q' E' s :=
  Call_ (ev_built ok I hk hd hn hne hb (callWith_builtin1 (args_cons (wpAny_mono h (fun v s1 h1 => args_cons (wpAny_mono h1 (fun v2 s2 h2 => args_nil h2) fun _ _ x => x) (he2 _)) fun _ _ x => x) (he _)) (he _) (by rw [he2 _]; rfl)))

theorem ev_max (hh : c.A.handled = none) {a b : Int} {t u : Tok} {Q' : Value → Shared → Prop} {E' : Value → Shared → Prop} (I : Inv c g σ s)
    (k : Ok RV c g (fun r σ' => σ' = σ ∧ r = .int (if b > a then b else a)) Q') : wpAny c.M c.A (call (.builtin "max") [.int a t, .int b u]) Q' E' s :=
  max_two_ints hh fun h' tk hk => by
    by_cases q : b > a
    · simp only [if_pos q]; exact k _ _ _ g _ (.refl g) (I.grow hk tk) (.int b u) ⟨rfl, by rw [if_pos q]⟩
    · simp only [if_neg q]; exact k _ _ _ g _ (.refl g) (I.grow hk tk) (.int a t) ⟨rfl, by rw [if_neg q]⟩

theorem ev_tuple {v : Value} {a : AV} {xs : List AV} {Q' : Value → Shared → Prop} {E' : Value → Shared → Prop} (I : Inv c g σ s) (r : RV g v a) (h : σ.items a = some xs) (hsz : xs.length ≤ 100000)
    (k : Ok RV c g (fun r σ' => σ' = σ ∧ r = .tup xs) Q') : wpAny c.M c.A (call (.type "tuple") [v]) Q' E' s := by
  obtain ⟨l, vs, n, rfl, h1, h2⟩ := I.items r h
  refine call_tuple_list h1.isList (fun h' hk => ?_) (by simp [h2.length, sizeLine_val]; lia)
  exact k.tuple (I.grow hk s.toks) h2 ⟨rfl, rfl⟩ s.toks

theorem ev_len {v : Value} {a : AV} {xs : List AV} {Q' : Value → Shared → Prop} {E' : Value → Shared → Prop} (I : Inv c g σ s) (r : RV g v a) (h : σ.items a = some xs) (hsz : xs.length ≤ sizeLine)
    (k : Ok RV c g (fun r σ' => σ' = σ ∧ r = .int xs.length) Q') : wpAny c.M c.A (call (.builtin "len") [v]) Q' E' s := by
  obtain ⟨l, vs, n, rfl, h1, h2⟩ := I.items r h
  have e : (List.toArray vs).size = xs.length := by simp [h2.length]
  refine len_list h1.isList (by rw [e]; have := sizeLine_val; lia) ?_
  rw [e]
  exact k.here I (.int _ _) ⟨rfl, rfl⟩ _
end
end Mine
end

-- E9
section
open PySem PySem.W PyProof.Rows
set_option linter.unusedVariables false
set_option maxRecDepth 100000
namespace Mine

theorem subscripted_of {slice : Expr} (h : (match slice with | .Slice .. => false | _ => true) = true) (o i : Value) : subscripted slice false o i = operate [o, i] (getItem o i) := by
  cases slice <;> first | rfl | cases h

section
variable {prog : Program} {w : World} {A : Around} {E : Value → Shared → Prop} {s : Shared}
theorem ev_subTail {value slice : Expr} {o i : Value} {T id : String} {Q : Value → Shared → Prop} (hT : s.TypeIs o T)
    (hl : typeLookup (.type T) "__getitem__" = pure (some (.builtin id))) (h : wpAny (model prog w) A (getItem o i) Q E s)
    (hs : subscripted slice false o i = operate [o, i] (getItem o i)) :
    wpAny (model prog w) A (subscriptTail value slice o i) Q E s := by
  unfold subscriptTail
  refine wpAny_bind ?_
  rw [getitemInPython_of_ne hT.not_modules]
  refine wpAny_bind (wpAny_specialOf hT hl ?_)
  have fin : wpAny (model prog w) A (subscripted slice false o i) (fun r s₃ => wpAny (model prog w) A (letTemporaryGo value o r >>= fun _ => pure r) Q E s₃) E s := by
    rw [hs]
    exact wpAny_operating (wpAny_mono h (fun r s₃ h₃ => wpAny_bind (wpAny_letTemporaryGo (wpAny_pure h₃))) fun _ _ x => x)
  first
    | exact wpAny_pure (wpAny_bind fin)
    | exact wpAny_bind (wpAny_pure (wpAny_bind fin))
    | exact wpAny_bind fin

theorem ev_subSlice {env : Env} {value : Expr} {lower upper : Option Expr} {p pos : Pos} {Q : Value → Shared → Prop}
    (h : wpAny (model prog w) A (eval value env) (fun o s₁ => wpAny (model prog w) A (evalPart lower env) (fun vl s₂ => wpAny (model prog w) A (evalPart upper env) (fun vu s₃ =>
      ∃ l items lo hi, o = .ref l ∧ s₃.heap.IsList l items ∧ items.size ≤ sizeLine ∧ IsPart vl lo ∧ IsPart vu hi ∧
        Q (.ref (s₃.heap.objs.size + 1)) { s₃ with heap := (s₃.heap.push { cls := .type "slice", data := .fields #[vl, vu, .none] }).push { cls := .type "list", data := .seq (slicePick items lo hi none) } }) E s₂) E s₁) E s) :
    wpAny (model prog w) A (eval (.Subscript value (.Slice lower upper none p) pos) env) Q E s := by
  rw [eval_Subscript]
  refine wpAny_bind (wpAny_mono h (fun o s₁ h₁ => wpAny_bind (wpAny_holding (wpAny_Slice (wpAny_mono h₁ (fun vl s₂ h₂ => wpAny_mono h₂ (fun vu s₃ h₃ => ?_) fun _ _ e => e) fun _ _ e => e)))) fun _ _ e => e)
  obtain ⟨l, items, lo, hi, rfl, hl, hsz, pl, pu, hQ⟩ := h₃
  rw [evalPart_none]
  refine wpAny_pure ?_
  have hT := (hl.push { cls := .type "slice", data := .fields #[vl, vu, .none] }).typeIs (s := { s₃ with heap := s₃.heap.push { cls := .type "slice", data := .fields #[vl, vu, .none] } })
  have hg : wpAny (model prog w) A (getItem (.ref l) (.ref s₃.heap.objs.size)) Q E { s₃ with heap := s₃.heap.push { cls := .type "slice", data := .fields #[vl, vu, .none] } } := by
    refine wpAny_getItem_list_slice (hl.push _) (Heap.IsSliceOf.new ..) pl pu .none (by simp) ?_ hsz
    rw [Heap.size_push]
    exact hQ
  have fin : wpAny (model prog w) A (operate [.ref s₃.heap.objs.size, .ref l] (getItem (.ref l) (.ref s₃.heap.objs.size))) (fun r s₄ => wpAny (model prog w) A (letTemporaryGo value (.ref l) r >>= fun _ => pure r) Q E s₄) E { s₃ with heap := s₃.heap.push { cls := .type "slice", data := .fields #[vl, vu, .none] } } :=
    wpAny_operating (wpAny_mono hg (fun r s₃ h₃ => wpAny_bind (wpAny_letTemporaryGo (wpAny_pure h₃))) fun _ _ x => x)
  refine wpAny_bind (wpAny_standAt (wpAny_bind ?_))
  rw [getitemInPython_of_ne hT.not_modules]
  refine wpAny_bind (wpAny_specialOf hT list_getitem_lookup ?_)
  first
    | exact wpAny_pure (wpAny_bind fin)
    | exact wpAny_bind (wpAny_pure (wpAny_bind fin))
    | exact wpAny_bind fin
end

noncomputable def clip (n : Nat) : Option Int → Nat → Nat
  | none, d => d
  | some k, _ => k.toNat

theorem slicePick_eq {vs : List Value} {lo hi : Option Int} (hlo : ∀ k, lo = some k → 0 ≤ k) (hhi : ∀ k, hi = some k → 0 ≤ k) :
    slicePick (List.toArray vs) lo hi none = ((vs.take (hi.elim vs.length (·.toNat))).drop (lo.elim 0 (·.toNat))).toArray := by
  rw [slicePick_plain, List.drop_take]
  have e1 : ∀ a : Int, 0 ≤ a → clipAt (List.toArray vs).size a = min a.toNat vs.length := fun a ha => by
    have := clipAt_nat (List.toArray vs).size a.toNat
    rw [show ((a.toNat : Nat) : Int) = a from Int.toNat_of_nonneg ha] at this
    simpa using this
  congr 1
  have key : ∀ a b : Nat, b ≤ vs.length → (vs.drop (min a vs.length)).take (b - min a vs.length) = (vs.drop a).take (b - a) := by
    intro a b hb
    rcases Nat.le_total a vs.length with h | h
    · rw [Nat.min_eq_left h]
    · rw [Nat.min_eq_right h, List.drop_of_length_le (Nat.le_refl _), List.drop_of_length_le h]; simp
  have key2 : ∀ a b : Nat, (vs.drop a).take (min b vs.length - a) = (vs.drop a).take (b - a) := by
    intro a b
    rcases Nat.le_total b vs.length with h | h
    · rw [Nat.min_eq_left h]
    · rw [Nat.min_eq_right h]
      rw [List.take_of_length_le (by simp), List.take_of_length_le (by simp; lia)]
  cases lo with
  | none =>
    cases hi with
    | none => simp
    | some b =>
      simp only [Option.elim, e1 b (hhi b rfl)]
      have := key2 0 b.toNat
      simpa using this
  | some a =>
    cases hi with
    | none =>
      simp only [Option.elim, e1 a (hlo a rfl)]
      have := key a.toNat vs.length (Nat.le_refl _)
      simpa using this
    | some b =>
      simp only [Option.elim, e1 a (hlo a rfl), e1 b (hhi b rfl)]
      rw [key a.toNat (min b.toNat vs.length) (Nat.min_le_right _ _), key2]

section
variable {c : Cx} {σ : AS} {X : Phi → AS → Prop} {g : Gh} {s : Shared}

/-- an item -/
theorem ev_item {value slice : Expr} {u v : Value} {x y : AV} {P' : AV → Prop} {Q' : Value → Shared → Prop} {E' : Value → Shared → Prop} (I : Inv c g σ s) (ru : RV g u x) (rv : RV g v y)
    (hs : (match slice with | .Slice .. => false | _ => true) = true)
    (h : match y with
      | .int k => (match x with
        | .str s => 0 ≤ k ∧ k < s.length ∧ k < 100000 ∧ ∃ ch, s.cps[k.toNat]? = some ch ∧ P' (.str ⟨#[ch]⟩)
        | _ => (match σ.seq x with
          | some xs => 0 ≤ k ∧ k < 100000 ∧ ∃ v, xs[k.toNat]? = some v ∧ P' v
          | none => False))
      | _ => False)
    (k : Ok RV c g (fun r σ' => σ' = σ ∧ P' r) Q') : wpAny c.M c.A (subscriptTail value slice u v) Q' E' s := by
  cases y with
  | int i =>
    obtain ⟨t, rfl⟩ := rv.int_inv
    have other : ∀ xs, σ.seq x = some xs → (0 ≤ i ∧ i < 100000 ∧ ∃ v, xs[i.toNat]? = some v ∧ P' v) → wpAny c.M c.A (subscriptTail value slice u (.int i t)) Q' E' s := by
      intro xs hx h
      obtain ⟨h0, h1, w, hw, hp⟩ := h
      have lst : ∀ {a}, RV g u a → σ.items a = some xs → wpAny c.M c.A (subscriptTail value slice u (.int i t)) Q' E' s := by
        intro a ra ha
        obtain ⟨l, vs, n, rfl, q1, q2⟩ := I.items ra ha
        obtain ⟨val, e1, e2⟩ := q2.get hw
        exact ev_subTail (T := "list") ⟨_, q1, rfl⟩ list_getitem_lookup (wpAny_getItem_list q1.isList h0 (by lia) (by simpa using e1) (k.here I e2 ⟨rfl, hp⟩ s.toks)) (subscripted_of hs _ _)
      cases x with
      | tup ys =>
        cases hx
        obtain ⟨l, vs, n, rfl, q1, q2⟩ := I.seqT ru
        obtain ⟨val, e1, e2⟩ := q2.get hw
        have hlt : i.toNat < vs.length := (List.getElem?_eq_some_iff.mp e1).1
        exact ev_subTail (T := "tuple") ⟨_, q1, rfl⟩ F.slot_tuple_getitem.lookup (P.getItem_tuple q1 (by lia) (by lia) (seqIndex_of h0 (by simp; lia)) (by simpa using e1) (k.here I e2 ⟨rfl, hp⟩ s.toks)) (subscripted_of hs _ _)
      | _ => exact lst ru hx
    cases x with
    | str str =>
      obtain ⟨t', rfl⟩ := ru.str_inv
      obtain ⟨h0, h1, h2, ch, hc, hp⟩ := h
      refine ev_subTail (T := "str") (typeIs_str s str t') F.slot_str_getitem.lookup (PyProof.Rows.getItem_str ?_ ?_ (k.here I (.str _ _) ⟨rfl, hp⟩ _)) (subscripted_of hs _ _)
      · simp; lia
      · rw [seqIndex_of h0 h1]; exact hc
    | _ =>
      dsimp only at h
      split at h
      · rename_i xs hx; exact other xs hx h
      · cases h
  | _ => cases h

theorem ev_slice {u vl vu : Value} {x : AV} {xs : List AV} {lo hi : Option Int} {Q' : Value → Shared → Prop} (I : Inv c g σ s) (ru : RV g u x) (hx : σ.items x = some xs) (hsz : xs.length ≤ sizeLine)
    (hlo : ∀ k, lo = some k → 0 ≤ k) (hhi : ∀ k, hi = some k → 0 ≤ k) (pl : IsPart vl lo) (pu : IsPart vu hi)
    (k : Ok RV c g (fun r σ' => σ' = σ ∧ r = .lst ((xs.take (hi.elim xs.length (·.toNat))).drop (lo.elim 0 (·.toNat)))) Q') :
    ∃ l items lo hi, u = .ref l ∧ s.heap.IsList l items ∧ items.size ≤ sizeLine ∧ IsPart vl lo ∧ IsPart vu hi ∧
        Q' (.ref (s.heap.objs.size + 1)) { s with heap := (s.heap.push { cls := .type "slice", data := .fields #[vl, vu, .none] }).push { cls := .type "list", data := .seq (slicePick items lo hi none) } } := by
  obtain ⟨l, vs, n, rfl, q1, q2⟩ := I.items ru hx
  refine ⟨l, _, lo, hi, rfl, q1.isList, by simp [q2.length]; exact hsz, pl, pu, ?_⟩
  rw [slicePick_eq hlo hhi]
  have I' := I.grow (h' := s.heap.push { cls := .type "slice", data := .fields #[vl, vu, .none] }) (fun b o e => Heap.get?_push_of_some _ e) s.toks
  have := k.list I' ((q2.take (hi.elim vs.length (·.toNat))).drop (lo.elim 0 (·.toNat))) ⟨rfl, by rw [q2.length]⟩ s.toks
  simpa [Heap.size_push] using this
end
end Mine
end

-- E10
section
open PySem PySem.W PyProof.Rows
set_option linter.unusedVariables false
set_option maxRecDepth 100000
namespace Mine

noncomputable def notStarB (e : Expr) : Bool := match e with | .Starred .. => false | _ => true

section
variable {prog : Program} {w : World} {A : Around} {E : Value → Shared → Prop} {s : Shared} {env : Env}
theorem backTo_noStar (pos : Pos) : ∀ {es : List Expr}, es.all notStarB = true → (backTo pos (starEach es env)).all (fun x => !x.1) = true ∧ (∀ e r, es = e :: r → starEach es env = (false, eval e env) :: starEach r env)
  | [], _ => ⟨rfl, fun _ _ h => nomatch h⟩
  | e :: r, h => by
    simp only [List.all_cons, Bool.and_eq_true] at h
    have q := notStar_of env e h.1 r
    refine ⟨?_, fun e' r' h' => by cases h'; exact q⟩
    rw [q]
    show (true && (backTo pos (starEach r env)).all _) = true
    rw [(backTo_noStar pos h.2).1]; rfl
theorem ev_callWithF {pos : Pos} {f : Addr} {fd : FuncData} {sl : Array (Option Value)} {es : List Expr} {first : List Value} {Q : Value → Shared → Prop} (hs : es.all notStarB = true)
    (h : wpAny (model prog w) A (spliced (backTo pos (starEach es env))) (fun vs s₁ => s₁.heap.get? f = some ⟨.type "function", none, .func fd, sl⟩ ∧ wpAny (model prog w) A (call (.ref f) (first ++ vs)) Q E s₁) E s) :
    wpAny (model prog w) A (callWith pos (.ref f) first (backTo pos (starEach es env)) []) Q E s := by
  cases es with
  | nil =>
    have h' : wpAny (model prog w) A (spliced []) (fun vs s₁ => s₁.heap.get? f = some ⟨.type "function", none, .func fd, sl⟩ ∧ wpAny (model prog w) A (call (.ref f) (first ++ vs)) Q E s₁) E s := h
    refine Calls.callWith_function (o := ⟨.type "function", none, .func fd, sl⟩) (fd := fd) ?_
    have e0 : evalArgs (.ref f) true [] [] = (spliced [] >>= fun vs => pure ⟨vs, []⟩) := by
      rw [spliced]; rfl
    show wpAny _ _ (evalArgs (.ref f) true [] []) _ _ _
    rw [e0]
    exact wpAny_bind (wpAny_mono h' (fun vs s₁ h₁ => wpAny_pure ⟨⟨h₁.1, rfl⟩, h₁.2⟩) fun _ _ x => x)
  | cons e r =>
    rw [(backTo_noStar pos hs).2 e r rfl] at h ⊢
    exact Calls.callWith_function (o := ⟨.type "function", none, .func fd, sl⟩) (fd := fd) (Calls.evalArgs_plain (wpAny_mono h (fun vs s₁ h₁ => ⟨⟨h₁.1, rfl⟩, h₁.2⟩) fun _ _ x => x))
end
end Mine
end

-- E11
section
open PySem PySem.W PyProof.Rows
set_option linter.unusedVariables false
set_option maxRecDepth 100000
namespace Mine

theorem tok_ga (P : Params) : findIn (KF P) (.ref tokC) "__getattribute__" = some (some (.builtin "object.__getattribute__")) := by kernel_rfl
theorem tok_gattr (P : Params) : findIn (KF P) (.ref tokC) "__getattr__" = some none := by kernel_rfl
theorem tok_fld (P : Params) (f : Fld) : findIn (KF P) (.ref tokC) f.name = some none := by cases f <;> kernel_rfl
theorem tok_hasDict (P : Params) : hasDictIn (KF P) tokC = true := by kernel_rfl
theorem tok_hasDict' (P : Params) : (clsIn (KF P) tokC).any (·.hasDict) = true := by kernel_rfl
theorem tok_over (P : Params) : plainOver (KF P) tokC = true := by kernel_rfl
theorem tok_set (P : Params) : findIn (KF P) (.ref tokC) "__setattr__" = some (some (.builtin "object.__setattr__")) := by kernel_rfl
theorem tok_taker (P : Params) (f : Fld) : takerIn (KF P) tokC f.name = some none := by unfold takerIn; rw [tok_fld]; rfl
theorem tok_makes (P : Params) : makesIn (KF P) tokC = true := by kernel_rfl
theorem tok_init (P : Params) : findIn (KF P) (.ref tokC) "__init__" = some (some (.ref 136)) := by kernel_rfl
theorem fn_type {P : Params} {x : Str} {a : Addr} (h : (x, a) ∈ globs ++ meths) : typeIn (KF P) (.ref a) = some (.type "function") := by
  obtain ⟨fd, sl, e⟩ := isFnObj_spec (all_fns P _ h)
  have e' : (KF P).lookup a = _ := e
  show Option.map _ ((KF P).lookup a) = _
  rw [e']; rfl
theorem init_type (P : Params) : typeIn (KF P) (.ref 136) = some (.type "function") := by kernel_rfl

theorem RV.handed {g : Gh} {v : Value} {a : AV} (r : RV g v a) : handedIn v = true := by cases r <;> rfl

theorem dictRep_get {g : Gh} {f : Fld} {a : AV} : ∀ {es : List DictEntry} {fs : List (Fld × AV)}, DictRep g es fs → fs.lookup f = some a → ∃ v, getL f.name es = some (some v) ∧ RV g v a
  | [], [], _, h => by cases h
  | e :: es, (f', b) :: fs, ⟨⟨t, hk⟩, h2, h3⟩, h => by
    rw [List.lookup_cons] at h
    have q : e.key.isStr f.name = decide (f' = f) := by rw [hk]; exact Fld.isStr f' f t
    unfold getL
    rw [List.find?_cons, q]
    by_cases hf : f' = f
    · subst hf
      rw [beq_self_eq_true] at h
      cases h
      exact ⟨_, by simp, h2⟩
    · have : (f == f') = false := by rw [beq_eq_false_iff_ne]; exact fun h => hf h.symm
      rw [this] at h
      obtain ⟨v, h4, h5⟩ := dictRep_get h3 h
      refine ⟨v, ?_, h5⟩
      have nr : e.refKey = false := by unfold DictEntry.refKey; rw [hk]
      rw [decide_eq_false hf]
      unfold getL at h4
      rw [List.any_cons, nr, Bool.false_or]
      exact h4
  | [], _ :: _, h, _ => h.elim
  | _ :: _, [], h, _ => h.elim

theorem dictRep_length {g : Gh} : ∀ {es : List DictEntry} {fs : List (Fld × AV)}, DictRep g es fs → es.length = fs.length
  | [], [], _ => rfl
  | _ :: es, _ :: fs, ⟨_, _, h⟩ => congrArg (· + 1) (dictRep_length h)
  | [], _ :: _, h => h.elim
  | _ :: _, [], h => h.elim
theorem dictRep_noRef {g : Gh} : ∀ {es : List DictEntry} {fs : List (Fld × AV)}, DictRep g es fs → es.any (·.refKey) = false
  | [], [], _ => rfl
  | e :: es, _ :: fs, ⟨⟨t, hk⟩, _, h⟩ => by rw [List.any_cons, dictRep_noRef h]; unfold DictEntry.refKey; rw [hk]; rfl
  | [], _ :: _, h => h.elim
  | _ :: _, [], h => h.elim
theorem dictRep_put {g : Gh} {f : Fld} {hs : Int} {t : Tok} {v : Value} {a : AV} (r : RV g v a) : ∀ {es : List DictEntry} {fs : List (Fld × AV)}, DictRep g es fs → DictRep g (putL f.name hs (.str f.name t) v es) (putF f a fs)
  | [], [], _ => ⟨⟨_, rfl⟩, r, trivial⟩
  | e :: es, (f', b) :: fs, ⟨⟨t', hk⟩, h2, h3⟩ => by
    have q : e.key.isStr f.name = decide (f' = f) := by rw [hk]; exact Fld.isStr f' f t'
    unfold putL putF
    rw [q]
    by_cases hf : f' = f
    · rw [decide_eq_true hf, if_pos rfl, if_pos hf]
      exact ⟨⟨_, hk⟩, r, h3⟩
    · rw [decide_eq_false hf, if_neg (by decide), if_neg hf]
      exact ⟨⟨_, hk⟩, h2, dictRep_put r h3⟩
  | [], _ :: _, h => h.elim
  | _ :: _, [], h => h.elim
theorem putF_length (f : Fld) (a : AV) : ∀ fs : List (Fld × AV), (putF f a fs).length ≤ fs.length + 1
  | [] => Nat.le_refl _
  | (f', b) :: r => by
    unfold putF
    split
    · simp
    · simp only [List.length_cons]; have := putF_length f a r; lia

section
variable {c : Cx} {σ : AS} {X : Phi → AS → Prop} {g : Gh} {s : Shared}

/-- the tokenizer and its dict -/
theorem Inv.inst {v : Value} {fs : List (Fld × AV)} (I : Inv c g σ s) (r : RV g v (.ins 1)) (hC : σ.cells[1]? = some (.dct fs)) : ∃ x d es n, v = .ref x ∧ g.ad 1 = some d ∧ s.heap.get? x = some (instObj tokC d) ∧
    s.heap.get? d = some (dictOf es n) ∧ DictRep g es fs ∧ InstAt s.heap x (instObj tokC d) tokC (some (dictOf es n)) := by
  cases r with
  | @ins x d k h1 h2 =>
    obtain ⟨b', q1, _, _, es, n, q4, q5⟩ := I.cells 1 _ hC rfl
    rw [h1] at q1; cases q1
    exact ⟨x, d, es, n, rfl, h1, I.zin _ _ h2, q4, q5, I.zin _ _ h2, rfl, rfl, q4⟩

theorem ev_attrI {v : Value} {fs : List (Fld × AV)} {f : Fld} {a : AV} {Q' : Value → Shared → Prop} {E' : Value → Shared → Prop} (I : Inv c g σ s) (r : RV g v (.ins 1)) (hC : σ.cells[1]? = some (.dct fs)) (hf : fs.lookup f = some a)
    (k : Ok RV c g (fun r σ' => σ' = σ ∧ r = a) Q') : wpAny c.M c.A (getAttr v f.name true) Q' E' s := by
  obtain ⟨x, d, es, n, rfl, h1, h2, h3, h4, h5⟩ := I.inst r hC
  obtain ⟨u, h6, h7⟩ := dictRep_get h4 hf
  exact get_value I.KIn h5 (tok_ga _) (findObj_own (tok_hasDict _) (tok_fld _ f) rfl h6) h7.handed (k.here I h7 ⟨rfl, rfl⟩ _)

/-- a method of the tokenizer is called -/
theorem ev_meth (ok : CxOk c) {i : Nat} {x nm : Str} {f : Addr} {fs : List (Fld × AV)} {xp apos pos : Pos} {es : List Expr} {Q' : Value → Shared → Prop} {E' : Value → Shared → Prop} (I : Inv c g σ s) (hx : c.names[i]? = some nm) (ha : σ.get i = some (.ins 1))
    (hC : σ.cells[1]? = some (.dct fs)) (hm : meths.lookup x = some f) (hs : es.all notStarB = true) (hfew : es.length < 20) (hline : (apos.endLine == pos.line) = true)
    (h : ∀ v, RV g v (.ins 1) → wpAny c.M c.A (spliced (backTo pos (starEach es c.env))) (fun vs s₁ => ∃ σ' g', Inv c g' σ' s₁ ∧ wpAny c.M c.A (call (.ref f) (v :: vs)) Q' E' s₁) E' s) :
    wpAny c.M c.A (eval (.Call (.Attribute (.Name nm xp) x apos) es [] pos) c.env) Q' E' s := by
  rw [arm_eval_Call]
  have e1 : attributeBase (.Name nm xp) x c.env (eval (.Name nm xp) c.env) = eval (.Name nm xp) c.env := rfl
  rw [e1]
  refine wpAny_bind (ev_loc ok I hx ha fun v r => ?_)
  refine wpAny_bind (wpAny_standAt ?_)
  obtain ⟨a, d, des, n, rfl, h1, h2, h3, h4, h5⟩ := I.inst r hC
  have hform : methodCallForm (es.length + ([] : List Keyword).length) (backTo pos (starEach es c.env)) (backToKw pos (keywordEach [] c.env)) = true := by
    unfold methodCallForm
    rw [(backTo_noStar pos hs).1]
    show (true && true && decide _) = true
    simp only [Bool.and_self, Bool.true_and, decide_eq_true_eq]
    show es.length + 0 + 0 < 30
    lia
  have hpos : methodCallPos true (.Name nm xp) c.env apos pos = pure pos := by unfold methodCallPos; simp [hline]
  unfold methodCall
  rw [hform]
  have mem := lookup_mem hm
  have mem' : (x, f) ∈ globs ++ meths := List.mem_append_right _ mem
  obtain ⟨fd, sl, hfn⟩ := isFnObj_spec (all_fns c.W.w.params _ mem')
  refine wpAny_bind (wpAny_holding ?_)
  show wpAny c.M c.A (getMethod (.ref a) x _) _ _ _
  refine method_fn I.KIn h5 (tok_ga _) (tok_gattr _) (all_meths _ _ mem) (fn_type mem') ?_ ?_
  · show (lookIn x (dictOf des n)).map (·.isSome) = some false
    rw [lookIn_dict]
    have : ∀ f : Fld, (f.name == x) = false := by
      have : ∀ p ∈ meths, ∀ f : Fld, (f.name == p.1) = false := by unfold meths; intro p hp f; revert p; cases f <;> decide
      exact this _ mem
    have nf : ∀ {des : List DictEntry} {fs : List (Fld × AV)}, DictRep g des fs → des.find? (·.key.isStr x) = none := by
      intro des fs h4
      induction des generalizing fs with
      | nil => rfl
      | cons e es ih =>
        cases fs with
        | nil => exact h4.elim
        | cons p fs =>
          obtain ⟨⟨t, hk⟩, _, h6⟩ := h4
          rw [List.find?_cons, hk, show (Value.str p.1.name t).isStr x = false from this p.1]
          exact ih h6
    unfold getL
    rw [nf h4, dictRep_noRef h4]; rfl
  · refine wpAny_bind (wpAny_of_eq hpos ?_)
    refine ev_callWithF (fd := fd) (sl := sl) hs (wpAny_mono (h _ r) (fun vs s₁ h₁ => ?_) fun _ _ x => x)
    obtain ⟨σ', g', I', h₁⟩ := h₁
    exact ⟨I'.KIn _ _ hfn, h₁⟩

/-- an attribute of the tokenizer is stored -/
theorem ev_setattr {v u : Value} {fs : List (Fld × AV)} {f : Fld} {a : AV} {Q' : Unit → Shared → Prop} {E' : Value → Shared → Prop} (I : Inv c g σ s) (r : RV g v (.ins 1)) (hC : σ.cells[1]? = some (.dct fs)) (ru : RV g u a) (hz : fs.length ≤ 10)
    (k : ∀ s', Inv c g (σ.setC 1 (.dct (putF f a fs))) s' → Q' () s') : wpAny c.M c.A (setAttr v f.name u) Q' E' s := by
  obtain ⟨x, d, es, n, rfl, h1, h2, h3, h4, h5⟩ := I.inst r hC
  refine set_plain I.KIn h5 (tok_set _) ?_
  obtain ⟨hp, gg, dd, tt, oo⟩ := s
  dsimp only at h2 h3 h5
  have KI := I.KIn
  dsimp only at KI
  refine osa_open KI h5 (tok_over _) (tok_taker _ f) fun b => ?_
  obtain ⟨cd, hc, hd'⟩ := any_some (tok_hasDict' c.W.w.params)
  refine wpAny_bind (wpAny_pure (wpAny_bind (wpAny_bind (wpAny_loadPart h2 (wpAny_bind ((looks_clsIn KI hc).at ?_))))))
  rw [hd']
  refine wpAny_pure (a := some d) (wpAny_bind (wpAny_pure (wpAny_bind ?_)))
  unfold nsSet
  refine wpAny_bind (wpAny_bind (wpAny_askSetting (wpAny_pure (wpAny_bind (wpAny_mkText (wpAny_bind (wpAny_loadPart h3 ?_)))))))
  dsimp only
  have cc : (!es.toArray.any (·.key.isStr f.name) && es.toArray.any (·.refKey)) = false := by
    rw [← Array.any_toList, ← Array.any_toList]
    show (_ && es.any (·.refKey)) = false
    rw [dictRep_noRef h4, Bool.and_false]
  rw [aRefKeyMayBeTheName_at, cc]
  refine wpAny_updatePart h3 ?_
  have lt := Heap.lt_size h3
  have D : (hp.update d (Obj.putName f.name (PyData.keyHash c.W.w.params f.name) (.str f.name (tt + 1)) u)).get? d = some (dictOf (putL f.name (PyData.keyHash c.W.w.params f.name) (.str f.name (tt + 1)) u es) (putN f.name es n)) := by
    rw [← putName_dict]
    exact Heap.get?_update_self _ h3 (by rw [putName_dict]; rfl)
  have R := dictRep_put (f := f) (hs := PyData.keyHash c.W.w.params f.name) (t := tt + 1) ru h4
  have J := I.setCell (C' := .dct (putF f a fs)) (tt + 2) hC rfl h1 (Heap.SameBut.update hp d (Obj.putName f.name (PyData.keyHash c.W.w.params f.name) (.str f.name (tt + 1)) u)) rfl ⟨_, _, D, R⟩
  refine wpAny_bind (wpAny_lookBehind D (pastItsLine_dict (by have := dictRep_length R; have := putF_length f a fs; rw [List.size_toArray, sizeLine_eq]; lia)) ?_)
  exact wpAny_pure (k _ J)
end
end Mine
end

-- E12
section
open PySem PySem.W PyProof.Rows
set_option linter.unusedVariables false
set_option maxRecDepth 100000
namespace Mine

section
variable {c : Cx} {σ : AS} {X : Phi → AS → Prop} {g : Gh} {s : Shared}

/-- a new frozen object, wherever it lies -/
theorem Inv.no_K (I : Inv c g σ s) {D : Addr} (h : s.heap.get? D = none) : g.K D = none := by
  cases e : g.K D with
  | none => rfl
  | some o => obtain ⟨o', h1, _⟩ := I.kept _ _ e; rw [h] at h1; cases h1
theorem le_adopt {D : Addr} {o : Obj} (hK : g.K D = none) (hz : g.z D = none) : g.le (g.add D o) where
  z := fun a o' e => by
    show (if a = _ then some o else g.z a) = _
    rw [if_neg (fun h => by rw [h, hz] at e; cases e)]; exact e
  K := fun a o' e => by
    show (if a = _ then some o else g.K a) = _
    rw [if_neg (fun h => by rw [h, hK] at e; cases e)]; exact e
  ad := fun _ _ e => e
  new := fun a h1 h2 => by
    show (if a = _ then some o else g.z a) = _
    rw [if_neg (fun h => by rw [h, hK] at h2; exact h2 rfl)]; exact h1
/-- an object that nothing of the ghost has is frozen -/
theorem Inv.freeze (I : Inv c g σ s) {D : Addr} {o : Obj} (hK : g.K D = none) (hL : D ≠ c.L) (hC : ∀ k C, σ.cells[k]? = some C → C.live = true → g.ad k ≠ some D) (ho : s.heap.get? D = some o) : Inv c (g.add D o) σ s := by
  have hz := I.zK _ hK
  have L := le_adopt (o := o) hK hz
  refine ⟨fun a o' e => ?_, fun a o' e => ?_, fun a e => ?_, fun a o' e => L.z _ _ (I.base a o' e), ?_, ?_, ?_, I.inj, I.adU, I.adN, ?_, I.gens, I.os, I.adAt, fun j b e h' => ?_⟩
  · have e' : (if a = D then some o else g.K a) = some o' := e
    by_cases h : a = D
    · rw [if_pos h] at e'; cases e'; subst h; exact ⟨_, ho, .inl rfl⟩
    · rw [if_neg h] at e'; exact I.kept a o' e'
  · have e' : (if a = D then some o else g.z a) = some o' := e
    by_cases h : a = D
    · rw [if_pos h] at e'; cases e'; subst h; exact ho
    · rw [if_neg h] at e'; exact I.zin a o' e'
  · have e' : (if a = D then some o else g.K a) = none := e
    show (if a = D then some o else g.z a) = none
    by_cases h : a = D
    · rw [if_pos h] at e'; cases e'
    · rw [if_neg h] at e' ⊢; exact I.zK a e'
  · obtain ⟨m, h1, h2⟩ := I.loc
    exact ⟨m, h1, fun i x a h3 h4 => let ⟨v, q1, q2⟩ := h2 i x a h3 h4; ⟨v, q1, q2.le L⟩⟩
  · show (if c.L = D then some o else g.K c.L) = none
    rw [if_neg (Ne.symm hL)]; exact I.KL
  · intro k C h1 h2
    obtain ⟨a, q1, q2, q3, q4⟩ := I.cells k C h1 h2
    refine ⟨a, q1, ?_, q3, q4.mono L.z L.ad fun _ e => e⟩
    show (if a = D then some o else g.K a) = none
    rw [if_neg (fun h => hC k C h1 h2 (q1.trans (by rw [h])))]; exact q2
  · intro env he
    obtain ⟨h1, L', o', h2, h3, h4, h5⟩ := I.outer env he
    have h : L' ≠ D := fun h => h3.2 (h ▸ hK)
    refine ⟨h1, L', o', h2, ⟨?_, ?_⟩, h4, h5⟩
    · show (if L' = D then some o else g.z L') = none
      rw [if_neg h]; exact h3.1
    · show (if L' = D then some o else g.K L') ≠ none
      rw [if_neg h]; exact h3.2
  · show (if b = D then some o else g.z b) ≠ none
    have h' : (if b = D then some o else g.K b) ≠ none := h'
    by_cases hb : b = D
    · rw [if_pos hb]; exact Option.some_ne_none _
    · rw [if_neg hb] at h' ⊢; exact I.adK j b e h'
/-- an object that was not there is frozen -/
theorem Inv.adopt (I : Inv c g σ s) {D : Addr} {o : Obj} {h' : Heap} (h : s.heap.get? D = none) (k : ∀ b o, s.heap.get? b = some o → h'.get? b = some o) (t : Nat) (ho : h'.get? D = some o) :
    g.le (g.add D o) ∧ Inv c (g.add D o) σ { s with heap := h', toks := t } := by
  have hK := I.no_K h
  refine ⟨le_adopt hK (I.zK _ hK), (I.grow k t).freeze hK ?_ ?_ ho⟩
  · rintro rfl; obtain ⟨m, ⟨o, _, _, ho, _⟩, _⟩ := I.loc; rw [h] at ho; cases ho
  · intro j C h1 h2 h3
    obtain ⟨a, q1, _, _, q4⟩ := I.cells j C h1 h2
    rw [h3] at q1; cases q1
    obtain ⟨o, ho⟩ := q4.there h2
    rw [h] at ho; cases ho
end
end Mine
end

-- E13
section
open PySem PySem.W PyProof.Rows
set_option linter.unusedVariables false
set_option maxRecDepth 100000
namespace Mine

theorem notIn_iter {h : Heap} {b : Addr} {o : Obj} (e : h.get? b = some o) : b ∉ [h.objs.size] := fun hb =>
  absurd (Heap.lt_size e) ((List.mem_singleton.mp hb) ▸ Nat.lt_irrefl _)

section
variable {prog : Program} {w : World} {A : Around} {E : Value → Shared → Prop} {s : Shared} {env : Env}

noncomputable def EltOk (prog : Program) (w : World) (A : Around) (env : Env) (scope : Scope) (x : Str) (elt : Expr) (P : Value → Prop) (F : Value → Value → Prop) (s₁ : Shared) : Prop :=
  ∀ C v s₃ m₃ E', P v → s₃.heap.Ns C m₃ → m₃ x = some v → (∀ b o, s₁.heap.get? b = some o → s₃.heap.get? b = some o) → wpAny (model prog w) A (eval elt (compEnv scope C env)) (fun y s₄ => F v y ∧ Keeps s₃ s₄) E' s₃

theorem paired_all {F : Value → Value → Prop} {vs : List Value} {ys : List Value} (h : Paired F (vs.filter fun _ => true) ys) : Paired F vs ys := by rwa [List.filter_eq_self.mpr (fun _ _ => rfl)] at h

/-- a comprehension over a list -/
theorem ev_compL {elt iter : Expr} {x : Str} {px : Pos} {scope : Scope} {pos : Pos} {Q : Value → Shared → Prop} (hh : A.handled = none)
    (hfree : ∀ y ∈ scope.names, y.2 ≠ .free) (hcell : ∀ y ∈ scope.names, y.2 ≠ .cell) (hkind : scope.kind = .function)
    (hnames : ∀ y ∈ scope.names, y.2 = .local → scope.names.lookup y.1 = some .local) (hx : scope.names.lookup x = some .local)
    (hs : ∀ x, foldedSetIterable iter env x = pure x)
    (h : wpAny (model prog w) A (eval iter env) (fun xv s₁ => ∃ l vs F, xv = .ref l ∧ s₁.heap.IsList l (List.toArray vs) ∧ vs.length ≤ 100000 ∧ EltOk prog w A env scope x elt (fun v => v ∈ vs) F s₁ ∧
      (∀ D h' tk ys n, s₁.heap.get? D = none → (∀ b o, s₁.heap.get? b = some o → h'.get? b = some o) → IsL h' D (List.toArray ys) n → Paired F vs ys → Q (.ref D) { s₁ with heap := h', toks := tk })) E s) :
    wpAny (model prog w) A (eval (.ListComp elt [⟨.Name x px, iter, [], 0⟩] scope pos) env) Q E s := by
  refine ListComp_rowsP hfree hcell hkind hnames hx (wpAny_mono h (fun xv s₁ h₁ => ?_) fun _ _ e => e) hs
  obtain ⟨l, vs, F, rfl, hl, hsz, he, hQ⟩ := h₁
  have hlt : l < s₁.heap.objs.size := by obtain ⟨_, e, _⟩ := hl; exact Heap.lt_size e
  refine wpAny_pyIter_list hl ?_
  have up : ∀ (h' : Heap), (∀ b o', b ∉ [s₁.heap.objs.size] → (s₁.heap.push { cls := .type "list_iterator", data := .fields #[.ref l, .int 0 0] }).get? b = some o' → h'.get? b = some o') → ∀ b o', s₁.heap.get? b = some o' → h'.get? b = some o' :=
    fun h' hk b o' e => hk b o' (notIn_iter e) (Heap.get?_push_of_some _ e)
  refine ⟨fun _ => true, F, s₁.heap.objs.size, [s₁.heap.objs.size, l], [s₁.heap.objs.size], vs.toArray.size, _, _, rfl, Walks.list hh _ l (Nat.ne_of_lt hlt) vs.toArray, (by rw [List.size_toArray, sizeLine_val]; lia),
    ⟨⟨_, Heap.get?_push_size _ rfl, rfl, rfl⟩, hl.at fun o e => Heap.get?_push_of_some _ e⟩, ?_, ⟨?_, ?_⟩, ?_⟩
  · intro b hb
    show b < (s₁.heap.push _).objs.size
    rw [Heap.size_push]
    rcases List.mem_cons.mp hb with rfl | hb
    · exact Nat.lt_succ_self _
    · rw [List.mem_singleton.mp hb]; exact Nat.lt_succ_of_lt hlt
  · intro C i v s₃ m₃ E' hP hn hm hk htk
    exact wpAny_tests_nil ⟨rfl, s₃.heap, s₃.toks, rfl, fun _ _ e => e⟩
  · intro C i v s₃ m₃ E' hP hp hn hm hk htk
    have hmem : v ∈ vs := List.mem_of_getElem? (i := i) (by simpa using hP)
    exact he C v s₃ m₃ E' hmem hn hm (up _ hk)
  · intro D h' tk ys vs' hnew hlD hplD hlen hP hF hk
    have e' : vs' = vs := by simpa using walked_is hlen hP
    subst e'
    obtain ⟨n, hD⟩ := hplD
    refine hQ D h' tk ys.toList n ?_ (up h' hk) (by rw [Array.toArray_toList]; exact hD) (paired_all hF)
    cases e : s₁.heap.get? D with
    | none => rfl
    | some o' => rw [Heap.get?_push_of_some _ e] at hnew; cases hnew

/-- a comprehension over a text -/
theorem ev_compS {elt iter : Expr} {x : Str} {px : Pos} {scope : Scope} {pos : Pos} {Q : Value → Shared → Prop} (hh : A.handled = none)
    (hfree : ∀ y ∈ scope.names, y.2 ≠ .free) (hcell : ∀ y ∈ scope.names, y.2 ≠ .cell) (hkind : scope.kind = .function)
    (hnames : ∀ y ∈ scope.names, y.2 = .local → scope.names.lookup y.1 = some .local) (hx : scope.names.lookup x = some .local)
    (hs : ∀ x, foldedSetIterable iter env x = pure x)
    (h : wpAny (model prog w) A (eval iter env) (fun xv s₁ => ∃ y t F, xv = .str y t ∧ y.length ≤ 100000 ∧ EltOk prog w A env scope x elt (fun v => ∃ i, SignAt y i v) F s₁ ∧
      (∀ D h' tk ys n vs, s₁.heap.get? D = none → (∀ b o, s₁.heap.get? b = some o → h'.get? b = some o) → IsL h' D (List.toArray ys) n → vs.length = y.length → (∀ j v, vs[j]? = some v → SignAt y j v) → Paired F vs ys → Q (.ref D) { s₁ with heap := h', toks := tk })) E s) :
    wpAny (model prog w) A (eval (.ListComp elt [⟨.Name x px, iter, [], 0⟩] scope pos) env) Q E s := by
  refine ListComp_rowsP hfree hcell hkind hnames hx (wpAny_mono h (fun xv s₁ h₁ => ?_) fun _ _ e => e) hs
  obtain ⟨y, t, F, rfl, hsz, he, hQ⟩ := h₁
  refine wpAny_pyIter_str fun o St W hst => ?_
  have up : ∀ (h' : Heap), (∀ b o', b ∉ [s₁.heap.objs.size] → (s₁.heap.push o).get? b = some o' → h'.get? b = some o') → ∀ b o', s₁.heap.get? b = some o' → h'.get? b = some o' :=
    fun h' hk b o' e => hk b o' (notIn_iter e) (Heap.get?_push_of_some _ e)
  refine ⟨fun _ => true, F, s₁.heap.objs.size, [s₁.heap.objs.size], [s₁.heap.objs.size], y.cps.size, _, _, rfl, W A hh, (by have : y.cps.size = y.length := rfl; rw [sizeLine_val]; lia), hst, ?_, ⟨?_, ?_⟩, ?_⟩
  · intro b hb
    show b < (s₁.heap.push _).objs.size
    rw [Heap.size_push, List.mem_singleton.mp hb]
    exact Nat.lt_succ_self _
  · intro C i v s₃ m₃ E' hP hn hm hk htk
    exact wpAny_tests_nil ⟨rfl, s₃.heap, s₃.toks, rfl, fun _ _ e => e⟩
  · intro C i v s₃ m₃ E' hP hp hn hm hk htk
    exact he C v s₃ m₃ E' ⟨i, hP⟩ hn hm (up _ hk)
  · intro D h' tk ys vs' hnew hlD hplD hlen hP hF hk
    obtain ⟨n, hD⟩ := hplD
    refine hQ D h' tk ys.toList n vs' ?_ (up h' hk) (by rw [Array.toArray_toList]; exact hD) hlen hP (paired_all hF)
    cases e : s₁.heap.get? D with
    | none => rfl
    | some o' => rw [Heap.get?_push_of_some _ e] at hnew; cases hnew
end

section
variable {c : Cx} {σ : AS} {X : Phi → AS → Prop} {g : Gh} {s : Shared}

theorem compScope_spec {v f : Str} {sc : Scope} (h : compScope v f sc = true) (hv : (v == (".0" : Str)) = false) (hf : (f == (".0" : Str)) = false) (hvf : (f == v) = false) : (∀ y ∈ sc.names, y.2 ≠ .free) ∧ (∀ y ∈ sc.names, y.2 ≠ .cell) ∧ sc.kind = .function ∧
    (∀ y ∈ sc.names, y.2 = .local → sc.names.lookup y.1 = some .local) ∧ sc.names.lookup v = some .local ∧ sc.names.lookup f = some .globalImplicit := by
  unfold compScope at h
  simp only [Bool.and_eq_true, beq_iff_eq] at h
  obtain ⟨⟨⟨⟨h1, h2⟩, _⟩, _⟩, _⟩ := h
  rw [h2]
  refine ⟨?_, ?_, h1, ?_, ?_, ?_⟩
  · intro y hy; simp at hy; rcases hy with rfl | rfl | rfl <;> exact fun h => nomatch h
  · intro y hy; simp at hy; rcases hy with rfl | rfl | rfl <;> exact fun h => nomatch h
  · intro y hy hl; simp at hy; rcases hy with rfl | rfl | rfl
    · simp [List.lookup_cons]
    · simp [List.lookup_cons, hv]
    · cases hl
  · simp [List.lookup_cons, hv]
  · simp [List.lookup_cons, hf, hvf]

/-- within a comprehension: its variable -/
theorem comp_var {scope : Scope} {C : Addr} {x : Str} {p : Pos} {v : Value} {m : Str → Option Value} {s₃ : Shared} {Q : Value → Shared → Prop} {E' : Value → Shared → Prop} (hk : scope.kind = .function) (hx : scope.names.lookup x = some .local) (hd : (x == ("__debug__" : Str)) = false)
    (hn : s₃.heap.Ns C m) (hm : m x = some v) (h : Q v s₃) : wpAny c.M c.A (eval (.Name x p) (compEnv scope C c.env)) Q E' s₃ :=
  wpAny_Name (wpAny_loadName_local (env := compEnv scope C c.env) hk hx hn hm h) hd
theorem comp_built (ok : CxOk c) (I : Inv c g σ s) {scope : Scope} {C : Addr} {x : Str} {p : Pos} {v : Value} {s₃ : Shared} {Q : Value → Shared → Prop} {E' : Value → Shared → Prop} (hk : scope.kind = .function) (hx : scope.names.lookup x = some .globalImplicit) (hd : (x == ("__debug__" : Str)) = false)
    (hK : ∀ b o, s.heap.get? b = some o → s₃.heap.get? b = some o) (hn : c.W.mg x = none) (hne : x ≠ "__name__") (hv : bootBuiltins x = some v) (h : Q v s₃) : wpAny c.M c.A (eval (.Name x p) (compEnv scope C c.env)) Q E' s₃ := by
  refine Calls.Name_function_global (env := compEnv scope C c.env) hk hx (Calls.loadGlobal_builtin (mg := c.W.mg) (mb := c.W.mb) ?_ hn ?_ ((c.W.boot x hne).trans hv) h) hd
  · show s₃.heap.Ns c.env.globals _
    rw [ok.glob]
    exact c.W.G.keeps fun b o e => hK _ _ (I.zin _ _ (I.base _ _ e))
  · show s₃.heap.Ns c.env.builtins _
    rw [ok.blt]
    exact c.W.B.keeps fun b o e => hK _ _ (I.zin _ _ (I.base _ _ e))

theorem Keeps.toks (s : Shared) (t : Nat) : Keeps s { s with toks := t } := ⟨s.heap, t, rfl, fun _ _ e => e⟩
theorem paired_chr {g : Gh} : ∀ {vs ys : List Value} {ns : List Nat}, RVs g vs (ns.map fun n : Nat => AV.int (n : Int)) → Paired (fun v y => ∀ n t, v = .int n t → ∃ u, y = .str ⟨#[n.toNat]⟩ u) vs ys → ∃ l : List (Str × Tok), ys = strValues l ∧ l.map (·.1) = ns.map fun n => ⟨#[n]⟩
  | _, _, [], .nil, .nil => ⟨[], rfl, rfl⟩
  | _, _, n :: ns, .cons r rs, .cons p ps => by
    obtain ⟨l, rfl, e⟩ := paired_chr rs ps
    obtain ⟨t, rfl⟩ := r.int_inv
    obtain ⟨u, rfl⟩ := p _ _ rfl
    exact ⟨(⟨#[(n : Int).toNat]⟩, u) :: l, rfl, by simp [e]⟩

theorem join_chars (ns : List Nat) : Txt.join "" (ns.map fun n => (⟨#[n]⟩ : Str)) = ⟨ns.toArray⟩ := by
  have key : ∀ (ns : List Nat), PySem.Str.join "" (ns.map fun n => (⟨#[n]⟩ : Str)) = ⟨ns.toArray⟩ := by
    intro ns
    have step : ∀ (ns : List Nat) (x : Str), PySem.Str.join "" (x :: ns.map fun n => (⟨#[n]⟩ : Str)) = ⟨x.cps ++ ns.toArray⟩ := by
      intro ns
      intro x
      rw [← StrLaws.glued_cons]
      congr 1
      generalize x.cps = a
      induction ns generalizing a with
      | nil => simp
      | cons n ns ih =>
        rw [List.map_cons, List.foldl_cons, ih]
        apply Array.toList_inj.mp
        have : (("" : Str).cps) = #[] := rfl
        simp [this]
    cases ns with
    | nil => rfl
    | cons n ns => rw [List.map_cons, step]; congr 1; apply Array.toList_inj.mp; simp
  exact (StrLaws.glued_eq_join "" _).trans (key ns)
end
end Mine
end

-- E14
section
open PySem PySem.W PyProof.Rows
set_option linter.unusedVariables false
set_option maxRecDepth 100000
namespace Mine

theorem isName_spec {x : Str} {e : Expr} (h : isName x e = true) : ∃ p, e = .Name x p := by
  unfold isName at h
  split at h
  · rw [beq_iff_eq] at h; subst h; exact ⟨_, rfl⟩
  · cases h

theorem mem_rvs {g : Gh} {P : AV → Prop} : ∀ {vs : List Value} {xs : List AV} {v : Value}, RVs g vs xs → (∀ x ∈ xs, P x) → v ∈ vs → ∃ x, RV g v x ∧ P x
  | _, _, _, .nil, _, h => nomatch h
  | _, _, v, .cons r rs, hp, h => by
    rcases List.mem_cons.mp h with rfl | h
    · exact ⟨_, r, hp _ (.head _)⟩
    · exact mem_rvs rs (fun x hx => hp x (.tail _ hx)) h

theorem tooLong_of {n : Nat} (h : n ≤ sizeLine) : Builtin.Str.tooLong n = false := by unfold Builtin.Str.tooLong; simp [h]

theorem joinOk_chars : ∀ (ns : List Nat), ns.length ≤ 100000 → JoinOk "" (ns.map fun n => (⟨#[n]⟩ : Str)) = true := by
  intro ns h
  unfold JoinOk
  have : ∀ (l : List Nat) (a : Nat), List.foldl (fun (a : Nat) (p : Str) => a + p.length + ("" : Str).length) a (l.map fun n => (⟨#[n]⟩ : Str)) = a + l.length := by
    intro l
    induction l with
    | nil => intro a; rfl
    | cons n l ih => intro a; rw [List.map_cons, List.foldl_cons, ih]; show a + 1 + 0 + l.length = _; simp; lia
  rw [List.foldl_toArray, this, tooLong_of (by rw [sizeLine_val]; lia)]; rfl

section
variable {c : Cx} {σ : AS} {X : Phi → AS → Prop} {g : Gh} {s : Shared}

/-- one call of a builtin function within a comprehension -/
theorem comp_call {scope : Scope} {C : Addr} {f : Str} {id : String} {e : Expr} {p pos : Pos} {s₃ : Shared} {Q : Value → Shared → Prop} {E' : Value → Shared → Prop}
    (hf : ∀ (Q : Value → Shared → Prop), Q (.builtin id) s₃ → wpAny c.M c.A (eval (.Name f p) (compEnv scope C c.env)) Q E' s₃) (he : notStar (compEnv scope C c.env) e)
    (h : wpAny c.M c.A (eval e (compEnv scope C c.env)) (fun v s₁ => wpAny c.M c.A (call (.builtin id) [v]) Q E' s₁) E' s₃) : wpAny c.M c.A (eval (.Call (.Name f p) [e] [] pos) (compEnv scope C c.env)) Q E' s₃ :=
  Call_ (hf _ (callWith_builtin1 (args_cons (wpAny_mono h (fun v s₁ h₁ => args_nil h₁) fun _ _ x => x) (he _)) (he _)))
theorem comp_callT {scope : Scope} {C : Addr} {f : Str} {id : String} {e : Expr} {p pos : Pos} {s₃ : Shared} {Q : Value → Shared → Prop} {E' : Value → Shared → Prop}
    (hf : ∀ (Q : Value → Shared → Prop), Q (.type id) s₃ → wpAny c.M c.A (eval (.Name f p) (compEnv scope C c.env)) Q E' s₃) (he : notStar (compEnv scope C c.env) e)
    (h : wpAny c.M c.A (eval e (compEnv scope C c.env)) (fun v s₁ => wpAny c.M c.A (call (.type id) [v]) Q E' s₁) E' s₃) : wpAny c.M c.A (eval (.Call (.Name f p) [e] [] pos) (compEnv scope C c.env)) Q E' s₃ :=
  Call_ (hf _ (callWith_type1 (args_cons (wpAny_mono h (fun v s₁ h₁ => args_nil h₁) fun _ _ x => x) (he _)) (he _)))

/-- ''.join([chr(code) for code in it]) -/
theorem ev_join (ok : CxOk c) (hh : c.A.handled = none) {it : Expr} {sc : Scope} {p0 p1 p2 p3 p4 p5 p6 p7 : Pos} {k0 : Nat} {Q' : Value → Shared → Prop} {E' : Value → Shared → Prop} (I : Inv c g σ s)
    (hsc : compScope "code" "chr" sc = true) (hline : (p1.endLine == p2.line) = true) (hs : ∀ x, foldedSetIterable it c.env x = pure x)
    (h : ∀ s, Inv c g σ s → wpAny c.M c.A (eval it c.env) (fun v s₁ => ∃ σ' g' a xs ns, g.le g' ∧ Inv c g' σ' s₁ ∧ RV g' v a ∧ σ'.items a = some xs ∧ xs = List.map (fun n : Nat => AV.int (n : Int)) ns ∧ (∀ n ∈ ns, n ≤ 1114111) ∧ ns.length ≤ 100000 ∧
      ∀ s₂ t, Inv c g' σ' s₂ → Q' (.str ⟨ns.toArray⟩ t) s₂) E' s) :
    wpAny c.M c.A (eval (.Call (.Attribute (.Constant (.str "") k0 p0) "join" p1) [.ListComp (.Call (.Name "chr" p3) [.Name "code" p4] [] p5) [⟨.Name "code" p6, it, [], 0⟩] sc p7] [] p2) c.env) Q' E' s := by
  obtain ⟨q1, q2, q3, q4, q5, q6⟩ := compScope_spec hsc (by decide) (by decide) (by decide)
  refine Call_method1 rfl rfl hline (Calls.Constant_str ?_)
  refine ⟨"str", "str.join", F.plainAttrs_str, F.slot_str_join, F.type_str_join, typeIs_str _ _ _, (fun _ e => nomatch e), ?_⟩
  refine Calls.callWith_builtin rfl (Calls.evalArgs_plain (Calls.spliced_cons ?_))
  refine ev_compL hh q1 q2 q3 q4 q5 hs (wpAny_mono (h _ (I.toks _)) (fun v s₁ h₁ => ?_) fun _ _ e => e)
  obtain ⟨σ', g', a, xs, ns, le, I', r, hx, rfl, hn, hsz, hQ⟩ := h₁
  obtain ⟨l, vs, n, rfl, h1, h2⟩ := I'.items r hx
  refine ⟨l, vs, fun v y => ∀ n t, v = .int n t → ∃ u, y = .str ⟨#[n.toNat]⟩ u, rfl, h1.isList, by rw [h2.length]; simpa using hsz, ?_, ?_⟩
  · intro C v s₃ m₃ E'' hv hN hm hk
    obtain ⟨x, rx, n, hn', hxn⟩ := mem_rvs (P := fun x => ∃ n : Nat, n ≤ 1114111 ∧ x = .int (n : Int)) h2 (by simp only [List.mem_map]; rintro _ ⟨n, hn', rfl⟩; exact ⟨n, hn n hn', rfl⟩) hv
    subst hxn
    obtain ⟨t, rfl⟩ := rx.int_inv
    refine comp_call (id := "chr") (fun Q hq => comp_built ok I' q3 q6 (by decide) hk c.W.n_chr (by decide) b_chr hq) (fun r => rfl) ?_
    refine comp_var q3 q5 (by decide) hN hm (chr_of_range (by lia) (by lia) ⟨?_, Keeps.toks _ _⟩)
    rintro n' t' e; cases e; exact ⟨_, rfl⟩
  · intro D h' tk ys n' hD hk hl hp
    obtain ⟨l', rfl, e⟩ := paired_chr h2 hp
    refine Calls.spliced_nil ?_
    show wpAny c.M c.A (call (.builtin "str.join") [.str "" _, .ref D]) _ _ _
    refine SC.join hl.isList e (joinOk_chars ns hsz) fun t' k => ?_
    rw [join_chars]
    exact hQ _ _ ((I'.grow hk tk).toks k)

theorem signs_ord {y : Str} {vs ys : List Value} (F : Value → Value → Prop) (hF : ∀ ch u w, F (.str ⟨#[ch]⟩ u) w → ∃ t, w = .int (ch : Nat) t) : ∀ {k : Nat}, (∀ j v, vs[j]? = some v → SignAt y (k + j) v) → Paired F vs ys → vs.length + k = y.cps.size →
    RVs g ys ((y.cps.toList.drop k).map fun n : Nat => AV.int (n : Int)) := by
  induction vs generalizing ys with
  | nil =>
    intro k h p e
    cases p
    rw [List.drop_of_length_le (by simp at e ⊢; lia)]
    exact .nil
  | cons v vs ih =>
    intro k h p e
    cases p with
    | cons p ps =>
      obtain ⟨ch, u, hc, rfl⟩ := h 0 v rfl
      obtain ⟨t, rfl⟩ := hF _ _ _ p
      have hlt : k < y.cps.toList.length := by simp at e ⊢; lia
      rw [List.drop_eq_getElem_cons hlt, List.map_cons]
      have e1 : y.cps.toList[k] = ch := by
        have : y.cps[k]? = some ch := by simpa using hc
        simpa using (Array.getElem?_eq_some_iff.mp this).2
      rw [e1]
      refine .cons (.int _ _) (ih (k := k + 1) (fun j v hj => ?_) ps (by simp at e; lia))
      have := h (j + 1) v (by simpa using hj)
      rwa [show k + (j + 1) = k + 1 + j by lia] at this

/-- [ord(mark) for mark in it] -/
theorem ev_ords (ok : CxOk c) (hh : c.A.handled = none) {it : Expr} {sc : Scope} {p3 p4 p5 p6 p7 : Pos} {Q' : Value → Shared → Prop} {E' : Value → Shared → Prop} (I : Inv c g σ s)
    (hsc : compScope "mark" "ord" sc = true) (hs : ∀ x, foldedSetIterable it c.env x = pure x)
    (h : wpAny c.M c.A (eval it c.env) (fun v s₁ => ∃ σ' g' y, g.le g' ∧ Inv c g' σ' s₁ ∧ RV g' v (.str y) ∧ y.length ≤ 100000 ∧
      ∀ v' g2 s₂, g'.le g2 → Inv c g2 σ' s₂ → RV g2 v' (.lst (y.cps.toList.map fun n : Nat => AV.int (n : Int))) → Q' v' s₂) E' s) :
    wpAny c.M c.A (eval (.ListComp (.Call (.Name "ord" p3) [.Name "mark" p4] [] p5) [⟨.Name "mark" p6, it, [], 0⟩] sc p7) c.env) Q' E' s := by
  obtain ⟨q1, q2, q3, q4, q5, q6⟩ := compScope_spec hsc (by decide) (by decide) (by decide)
  refine ev_compS hh q1 q2 q3 q4 q5 hs (wpAny_mono h (fun v s₁ h₁ => ?_) fun _ _ e => e)
  obtain ⟨σ', g', y, le, I', r, hsz, hQ⟩ := h₁
  obtain ⟨t, rfl⟩ := r.str_inv
  refine ⟨y, t, fun v w => ∀ ch u, v = .str ⟨#[ch]⟩ u → ∃ t, w = .int (ch : Nat) t, rfl, hsz, ?_, ?_⟩
  · rintro C v s₃ m₃ E'' ⟨i, ch, u, hc, rfl⟩ hN hm hk
    refine comp_call (id := "ord") (fun Q hq => comp_built ok I' q3 q6 (by decide) hk c.W.n_ord (by decide) b_ord hq) (fun r => rfl) ?_
    refine comp_var q3 q5 (by decide) hN hm (P.ord_of_char ⟨?_, Keeps.toks _ _⟩)
    rintro ch' u' e; cases e; exact ⟨_, rfl⟩
  · intro D h' tk ys n' vs hD hk hl hlen hP hp
    obtain ⟨le2, J⟩ := I'.adopt hD hk tk hl
    refine hQ _ _ _ le2 J (.lst (Gh.add_z _ _ _) ?_)
    have := signs_ord (g := g'.add D { cls := .type "list", dict := none, data := .seq ys.toArray n', slots := #[] }) (y := y) (vs := vs) (ys := ys) _ (fun ch u w hf => hf ch u rfl) (k := 0) (fun j v hj => by rw [Nat.zero_add]; exact hP j v hj) hp (by rw [hlen]; rfl)
    simpa using this

/-- [abs(int(cell)) % 10 ** 25 for cell in it] -/
theorem ev_wholes (ok : CxOk c) (hh : c.A.handled = none) {it : Expr} {sc : Scope} {k1 k2 : Nat} {p1 p2 p3 p4 p5 p6 p7 p8 p9 p10 p11 : Pos} {Q' : Value → Shared → Prop} {E' : Value → Shared → Prop} (I : Inv c g σ s)
    (hk0 : sc.kind = .function) (hnm : sc.names = ([(".0", NameKind.local), ("cell", NameKind.local), ("abs", NameKind.globalImplicit), ("int", NameKind.globalImplicit)] : List (Str × NameKind))) (hs : ∀ x, foldedSetIterable it c.env x = pure x)
    (h : wpAny c.M c.A (eval it c.env) (fun v s₁ => ∃ σ' g' a xs ns, g.le g' ∧ Inv c g' σ' s₁ ∧ RV g' v a ∧ σ'.items a = some xs ∧ xs = List.map AV.int ns ∧ ns.length ≤ 100000 ∧
      ∀ v' g2 s₂, g'.le g2 → Inv c g2 σ' s₂ → RV g2 v' (.lst (ns.map fun n => .int ((if n < 0 then -n else n).fmod (10 ^ 25)))) → Q' v' s₂) E' s) :
    wpAny c.M c.A (eval (.ListComp (.BinOp (.Call (.Name "abs" p1) [.Call (.Name "int" p2) [.Name "cell" p3] [] p4] [] p5) .Mod (.BinOp (.Constant (.int 10) k1 p6) .Pow (.Constant (.int 25) k2 p7) p8) p9) [⟨.Name "cell" p10, it, [], 0⟩] sc p11) c.env) Q' E' s := by
  have q1 : ∀ y ∈ sc.names, y.2 ≠ .free := by rw [hnm]; intro y hy; simp at hy; rcases hy with rfl | rfl | rfl | rfl <;> decide
  have q2 : ∀ y ∈ sc.names, y.2 ≠ .cell := by rw [hnm]; intro y hy; simp at hy; rcases hy with rfl | rfl | rfl | rfl <;> decide
  have q4 : ∀ y ∈ sc.names, y.2 = .local → sc.names.lookup y.1 = some .local := by rw [hnm]; intro y hy hl; simp at hy; rcases hy with rfl | rfl | rfl | rfl <;> first | (cases hl; done) | decide
  have q5 : sc.names.lookup ("cell" : Str) = some .local := by rw [hnm]; decide
  have q6 : sc.names.lookup ("abs" : Str) = some .globalImplicit := by rw [hnm]; decide
  have q7 : sc.names.lookup ("int" : Str) = some .globalImplicit := by rw [hnm]; decide
  refine ev_compL hh q1 q2 hk0 q4 q5 hs (wpAny_mono h (fun v s₁ h₁ => ?_) fun _ _ e => e)
  obtain ⟨σ', g', a, xs, ns, le, I', r, hx, rfl, hsz, hQ⟩ := h₁
  obtain ⟨l, vs, n, rfl, h1, h2⟩ := I'.items r hx
  refine ⟨l, vs, fun v y => ∀ n t, v = .int n t → ∃ u, y = .int ((if n < 0 then -n else n).fmod (10 ^ 25)) u, rfl, h1.isList, by rw [h2.length]; simpa using hsz, ?_, ?_⟩
  · intro C v s₃ m₃ E'' hv hN hm hk
    obtain ⟨x, rx, n, hxn⟩ := mem_rvs (P := fun x => ∃ n : Int, x = .int n) h2 (by simp only [List.mem_map]; rintro _ ⟨n, hn', rfl⟩; exact ⟨n, rfl⟩) hv
    subst hxn
    obtain ⟨t, rfl⟩ := rx.int_inv
    refine wpAny_BinOp ?_
    refine comp_call (id := "abs") (fun Q hq => comp_built ok I' hk0 q6 (by decide) hk c.W.n_abs (by decide) b_abs hq) (fun r => rfl) ?_
    refine comp_callT (id := "int") (fun Q hq => comp_built ok I' hk0 q7 (by decide) hk c.W.n_int (by decide) b_int hq) (fun r => rfl) ?_
    refine comp_var hk0 q5 (by decide) hN hm (call_int_int (call_abs_int fun u tk => ?_))
    refine wpAny_BinOp (wpAny_Constant_int (wpAny_Constant_int (pow_int_small (by decide) (by decide) (by decide) (mod_int' (by decide) ⟨?_, Keeps.toks _ _⟩))))
    rintro n' t' e; cases e; exact ⟨_, rfl⟩
  · intro D h' tk ys n' hD hk hl hp
    obtain ⟨le2, J⟩ := I'.adopt hD hk tk hl
    refine hQ _ _ _ le2 J (.lst (Gh.add_z _ _ _) ?_)
    have conv : ∀ (gg : Gh) {vs ys : List Value} {ns : List Int}, RVs g' vs (ns.map AV.int) → Paired (fun v y => ∀ n t, v = .int n t → ∃ u, y = .int ((if n < 0 then -n else n).fmod (10 ^ 25)) u) vs ys →
        RVs gg ys (ns.map fun n => .int ((if n < 0 then -n else n).fmod (10 ^ 25))) := by
      intro gg vs ys ns
      induction ns generalizing vs ys with
      | nil => intro r p; cases r; cases p; exact .nil
      | cons n ns ih =>
        intro r p
        cases r with
        | cons r rs =>
          cases p with
          | cons p ps =>
            obtain ⟨t, rfl⟩ := r.int_inv
            obtain ⟨u, rfl⟩ := p _ _ rfl
            exact .cons (.int _ _) (ih rs ps)
    exact conv _ h2 hp
end
end Mine
end

-- E15
section
open PySem PySem.W PyProof.Rows
set_option linter.unusedVariables false
set_option maxRecDepth 100000
namespace Mine

theorem flt_ga (P : Params) : findIn (KF P) (.ref fltC) "__getattribute__" = some (some (.builtin "BaseException.__getattribute__")) := by kernel_rfl
theorem flt_gattr (P : Params) : findIn (KF P) (.ref fltC) "__getattr__" = some none := by kernel_rfl
theorem flt_fld (P : Params) (f : Fld) : findIn (KF P) (.ref fltC) f.name = some none := by cases f <;> kernel_rfl
theorem flt_hasDict (P : Params) : hasDictIn (KF P) fltC = true := by kernel_rfl
theorem flt_isExc (P : Params) : subIn (KF P) (.ref fltC) (.type "BaseException") = some true := by kernel_rfl
theorem slot_bga : Slot "BaseException" "__getattribute__" "BaseException.__getattribute__" :=
  .of (owner := "BaseException") (n := "__getattribute__") (by rw [typeLookup_type, builtinLookup_eq_fast]; kernel_rfl) (by decide +kernel) (by decide +kernel) (by decide +kernel)
    (by first | exact .inl (by decide +kernel) | exact .inr (by decide +kernel)) (by rw [isSubtype_type]; kernel_rfl)

section
variable {c : Cx} {σ : AS} {X : Phi → AS → Prop} {g : Gh} {s : Shared}

theorem fltDict_get {es : List DictEntry} {kind : Str} {a r cc : Int} (h : FltDict es kind a r cc) {f : Fld} {x : AV} (hx : (match f with | .kind => some (AV.str kind) | .at => some (.int a) | .row => some (.int r) | .column => some (.int cc) | _ => none) = some x) :
    ∃ v, getL f.name es = some (some v) ∧ RV g v x := by
  obtain ⟨h1, h2, h3, h4, t1, t2, t3, t4, u1, u2, u3, u4, rfl⟩ := h
  have q := fun (f f' : Fld) (t : Tok) => Fld.isStr f f' t
  cases f <;> first | (cases hx; done) | (cases hx; unfold getL; simp only [List.find?_cons, q]; exact ⟨_, rfl, by constructor⟩)

theorem ga_tree (a b : Value) : Builtin.«object.__getattribute__» ⟨[a, b], []⟩ = Builtin.«object.__getattribute__» ⟨[a, b], []⟩ := rfl

theorem ev_attrF {v : Value} {kind : Str} {a r cc : Int} {f : Fld} {x : AV} {Q' : Value → Shared → Prop} {E' : Value → Shared → Prop} (I : Inv c g σ s) (rv : RV g v (.flt kind a r cc))
    (hx : (match f with | .kind => some (AV.str kind) | .at => some (.int a) | .row => some (.int r) | .column => some (.int cc) | _ => none) = some x)
    (k : Ok RV c g (fun r σ' => σ' = σ ∧ r = x) Q') : wpAny c.M c.A (getAttr v f.name true) Q' E' s := by
  cases rv with
  | @flt e o kk aa rr ccc hz hf =>
    obtain ⟨hc, d, es, n, vs, hd, hda, hzd, hdict⟩ := hf
    obtain ⟨u, h6, h7⟩ := fltDict_get (g := g) hdict hx
    have ho := I.zin _ _ hz
    have hdo := I.zin _ _ hzd
    have nc : notCls o = true := by unfold notCls; rw [hda]
    have IA : InstAt s.heap e o fltC (some (dictOf es n)) := ⟨ho, hc, nc, by rw [hd]; exact hdo⟩
    have KI := I.KIn
    obtain ⟨hp, gg, dd, tt, oo⟩ := s
    dsimp only at ho hdo IA KI
    have LT := IA.type (M := c.M)
    have LF := looks_find (M := c.M) KI IA (findObj_own (flt_hasDict _) (flt_fld _ f) rfl h6)
    have LG := looks_findIn (M := c.M) KI (flt_ga _)
    have LH : Looks c.M hp (hookBefore (.ref fltC)) none := looks_hook (mc := .ref fltC) KI ((if_pos rfl).trans (flt_gattr c.W.w.params))
    refine wpAny_bind (wpAny_mkText (wpAny_holding (wpAny_bind (LT.at (wpAny_bind (LG.at ?_))))))
    dsimp only
    have ne : (Value.builtin "BaseException.__getattribute__" == Value.builtin "object.__getattribute__") = false := by decide +kernel
    rw [show (onTheHeap (Value.ref fltC) && Value.builtin "BaseException.__getattribute__" == Value.builtin "object.__getattribute__") = false from by rw [ne, Bool.and_false], if_neg (by decide)]
    refine wpAny_bind (LH.at (wpAny_bind (wpAny_attempt (wpAny_holding ?_))))
    unfold callGetattribute
    rw [show (true && onTheHeap (Value.builtin "BaseException.__getattribute__")) = false from rfl, if_neg (by decide)]
    unfold boundAndCalled
    rw [slot_bga.bind]
    refine wpAny_bind (wpAny_pure ?_)
    show wpAny _ _ (call (.builtin "BaseException.__getattribute__") [.ref e, .str f.name tt]) _ _ _
    refine wpAny_call ?_
    refine codeAny_call_builtin slot_bga.plain PySem.F.entry_bexc_ga ?_
    refine @check_slot c.M _ _ ⟨hp, gg, dd, tt + 1, oo⟩ "BaseException.__getattribute__" "BaseException" "__getattribute__" (.ref e) [.str f.name tt] [] _ (by decide +kernel) (by decide +kernel) (LT.andThen (looks_subIn KI (flt_isExc _))) (PySem.F.args_bexc_ga (.ref e) (.str f.name tt)) ?_
    unfold Builtin.«object.__getattribute__»
    refine wpAny_bind (wpAny_pure (wpAny_bind (wpAny_pure (wpAny_bind (LT.at (wpAny_bind (LF.at ?_)))))))
    refine wpAny_pure ?_
    show wpAny _ _ (handedOut u) _ _ _
    rw [handedOut_of h7.handed]
    exact wpAny_pure (k.here (s := ⟨hp, gg, dd, tt, oo⟩) I h7 ⟨rfl, rfl⟩ _)
end
end Mine
end

-- E16
section
open PySem PySem.W PyProof.Rows
set_option linter.unusedVariables false
set_option maxRecDepth 100000
namespace Mine

structure CallsOk (Φ : Spec1) (c : Cx) : Prop where
  fn : ∀ {x : Str} {f : Addr}, (x, f) ∈ globs ++ meths → ∀ {xs : List AV} {σ : AS} {Q : AV → AS → Prop} {X : Phi → AS → Prop}, AV.closedL xs = true → Φ f xs σ.gc (fun r gc => Q r (σ.setG gc)) (fun φ gc => X φ (σ.setG gc)) →
    ∀ {vs : List Value} {g : Gh} {s : Shared} {Q' : Value → Shared → Prop} {E' : Value → Shared → Prop}, Inv c g σ s → RVs g vs xs → Ok RV c g Q Q' → Bad c g X E' → wpAny c.M c.A (call (.ref f) vs) Q' E' s
  tk : ∀ {x : AV} {σ : AS} {Q : AV → AS → Prop}, AV.closedL [x] = true → Φ tokC [x] σ.gc (fun r gc => Q r (σ.setG gc)) (fun _ _ => False) → ∀ {v : Value} {g : Gh} {s : Shared} {Q' : Value → Shared → Prop} {E' : Value → Shared → Prop}, Inv c g σ s → RV g v x →
    Ok RV c g Q Q' → wpAny c.M c.A (PySem.call (.ref tokC) [v]) Q' E' s
  flt : ∀ {kind : Str} {at_ : Int} {σ : AS} {X : Phi → AS → Prop}, Φ A_place [.ins 1, .int at_] σ.gc (fun r gc => match r with | .tup [.int row, .int col] => X (kind, at_, row, col) (σ.setG gc) | _ => False) (fun _ _ => False) →
    ∀ {fs : List (Fld × AV)}, (σ.cells[1]? : Option Cell) = some (.dct fs) → ∀ {v va : Value} {tk : Tok} {g : Gh} {s : Shared} {Q' : Value → Shared → Prop} {E' : Value → Shared → Prop}, Inv c g σ s → RV g v (.ins 1) → RV g va (.int at_) →
    (∀ e φ σ' g' s', g.le g' → Inv c g' σ' s' → FlyP c g' s'.heap e φ .none → X φ σ' → Q' (.ref e) s') → wpAny c.M c.A (PySem.call (.ref 157) [v, .str kind tk, va]) Q' E' s

noncomputable def RB (_ : Gh) (v b : Bool) : Prop := v = b

noncomputable def EOk (Φ : Spec1) (c : Cx) (ce : CE) (e : Expr) : Prop := ∀ σ Q X, wpE Φ ce σ Q X → Ev RV c (eval e c.env) σ Q X
noncomputable def TOk (Φ : Spec1) (c : Cx) (ce : CE) (e : Expr) : Prop := ∀ σ Q X (Qb : Bool → AS → Prop), wpE Φ ce σ Q X → (∀ a σ', Q a σ' → ∃ b, tr a = some b ∧ Qb b σ') → Ev RB c (isTrue e c.env (eval e c.env)) σ Qb X
noncomputable def EsOk (Φ : Spec1) (c : Cx) (ces : CEs) (es : List Expr) : Prop := ∀ (pos : Pos) σ Q X, wpEs Φ ces σ Q X → Ev RVs c (spliced (backTo pos (starEach es c.env))) σ Q X
noncomputable def BOk (Φ : Spec1) (c : Cx) (op : BoolOp) (ces : CEs) (es : List Expr) : Prop :=
  (∀ (pos : Pos) σ Q X, wpB Φ op ces σ Q X → Ev RV c (boolOp pos op (evalEach es c.env)) σ Q X) ∧
  (∀ σ Q X (Qb : Bool → AS → Prop), wpB Φ op ces σ Q X → (∀ a σ', Q a σ' → ∃ b, tr a = some b ∧ Qb b σ') → Ev RB c (allTrue op es c.env) σ Qb X)

noncomputable def plainT (e : Expr) : Bool := match e with
  | .UnaryOp .Not _ _ => false
  | .BoolOp _ _ _ => false
  | .IfExp _ _ _ _ => false
  | .Compare _ _ _ _ => false
  | _ => true
theorem plainT_eq {e : Expr} (h : plainT e = true) (env : Env) (whole : Sem Value) : isTrue e env whole = (do let v ← whole; standAt e.pos; holding [v] (truthy v)) := by
  cases e <;> first
    | rfl
    | (exact Bool.noConfusion h)
    | (rename_i op _ _; cases op <;> first | rfl | exact Bool.noConfusion h)

section
variable {c : Cx} {σ : AS} {g : Gh} {s : Shared} {Φ : Spec1}

theorem tr_some {a : AV} {b : Bool} (h : tr a = some b) : a = .bool b := by cases a <;> first | (cases h; rfl) | cases h

theorem TOk.of {ce : CE} {e : Expr} (h : EOk Φ c ce e) (pl : plainT e = true) : TOk Φ c ce e := by
  intro σ Q X Qb hw hq g s Q' E' I hok hbad
  refine wpAny_isTrue_value (h σ Q X hw g s _ E' I ?_ hbad) (plainT_eq pl _ _)
  intro v a σ' g' s' le I' r q
  obtain ⟨b, hb, hqb⟩ := hq a σ' q
  rw [tr_some hb] at r
  rw [r.bool_inv]
  exact wpAny_truthy_bool (hok _ _ _ _ _ le I' rfl hqb)

theorem Inv.kill (I : Inv c g σ s) {k : Nat} {C : Cell} (hk : σ.cells[k]? = some C) (hl : C.live = true) : Inv c g (σ.setC k .dead) s := by
  have klt : k < σ.cells.length := (List.getElem?_eq_some_iff.mp hk).1
  have at_ : ∀ j D, (σ.cells.set k Cell.dead)[j]? = some D → (j = k ∧ D = .dead) ∨ (j ≠ k ∧ σ.cells[j]? = some D) := by
    intro j D e
    by_cases hj : j = k
    · subst hj; rw [List.getElem?_set_self klt] at e; exact .inl ⟨rfl, (Option.some.inj e).symm⟩
    · rw [List.getElem?_set_ne (Ne.symm hj)] at e; exact .inr ⟨hj, e⟩
  refine ⟨I.kept, I.zin, I.zK, I.base, I.loc, I.KL, ?_, ?_, ?_, ?_, I.outer, I.gens, I.os, I.adAt, I.adK⟩
  · intro j D e l
    rcases at_ j D e with ⟨rfl, rfl⟩ | ⟨hj, e'⟩
    · cases l
    · exact I.cells j D e' l
  · intro i j b Ci Cj e1 l1 e2 l2 a1 a2
    rcases at_ i Ci e1 with ⟨rfl, rfl⟩ | ⟨hi, e1'⟩
    · cases l1
    rcases at_ j Cj e2 with ⟨rfl, rfl⟩ | ⟨hj, e2'⟩
    · cases l2
    exact I.inj _ _ b Ci Cj e1' l1 e2' l2 a1 a2
  · intro j e
    rcases at_ j _ e with ⟨rfl, h⟩ | ⟨_, e'⟩
    · cases h
    · exact I.adU j e'
  · intro j hj
    exact I.adN j (by simpa [AS.setC] using hj)

theorem Inv.setV (I : Inv c g σ s) (i : Nat) {a : AV} (h : ∀ m x, s.heap.Ns c.L m → c.names[i]? = some x → (∀ (j : Nat) (y : Str) (b : AV), c.names[j]? = some y → σ.vars[j]? = some (some b) → ∃ v, m y = some v ∧ RV g v b) → ∃ v, m x = some v ∧ RV g v a) : Inv c g (σ.put i a) s := by
  refine ⟨I.kept, I.zin, I.zK, I.base, ?_, I.KL, I.cells, I.inj, I.adU, I.adN, I.outer, I.gens, I.os, I.adAt, I.adK⟩
  obtain ⟨m, h1, h2⟩ := I.loc
  refine ⟨m, h1, fun j y b e1 e2 => ?_⟩
  by_cases hj : j = i
  · subst hj
    have e3 : σ.vars.length > j := by
      have := (List.getElem?_eq_some_iff.mp e2).1
      simpa [AS.put] using this
    simp only [AS.put, List.getElem?_set_self e3] at e2
    cases e2
    exact h m y h1 e1 h2
  · simp only [AS.put, List.getElem?_set_ne (Ne.symm hj)] at e2
    exact h2 j y b e1 e2

/-- a list is read for the last time: it is frozen -/
theorem ev_frz (ok : CxOk c) {i : Nat} {x : Str} {pos : Pos} {k : Nat} {xs : List AV} {Q' : Value → Shared → Prop} {E' : Value → Shared → Prop} (I : Inv c g σ s) (hx : c.names[i]? = some x) (ha : σ.get i = some (.ref k)) (hC : σ.cells[k]? = some (.lst xs))
    (h : ∀ v g', g.le g' → Inv c g' ((σ.put i (.lst xs)).setC k .dead) s → RV g' v (.lst xs) → Q' v s) : wpAny c.M c.A (eval (.Name x pos) c.env) Q' E' s := by
  refine ev_loc ok I hx ha fun v r => ?_
  cases r with
  | @ref a _ hk =>
    obtain ⟨a', q1, q2, q3, vs, n, q4, q5⟩ := I.cells k _ hC rfl
    rw [hk] at q1; cases q1
    have I1 := I.kill hC rfl
    have hz := I.zK _ q2
    have L := le_adopt (g := g) (D := a) (o := { cls := .type "list", dict := none, data := .seq vs.toArray n, slots := #[] }) q2 hz
    have I2 := I1.freeze (D := a) q2 q3 (fun j C e l e2 => by
      have klt : k < σ.cells.length := (List.getElem?_eq_some_iff.mp hC).1
      by_cases hj : j = k
      · subst hj
        simp only [AS.setC, List.getElem?_set_self klt] at e
        cases e; cases l
      · simp only [AS.setC, List.getElem?_set_ne (Ne.symm hj)] at e
        exact hj (I.inj j k a C _ e l hC rfl e2 hk)) q4
    have r' : RV (g.add a { cls := .type "list", dict := none, data := .seq vs.toArray n, slots := #[] }) (.ref a) (.lst xs) := .lst (Gh.add_z _ _ _) (q5.le L)
    refine h _ _ L (I2.setV i ?_) r'
    intro m y hm hy hall
    have hv : σ.vars[i]? = some (some (.ref k)) := by
      unfold AS.get at ha
      cases hv : σ.vars[i]? with
      | none => rw [hv] at ha; cases ha
      | some o => rw [hv] at ha; cases o with
        | none => cases ha
        | some b => cases ha; rfl
    obtain ⟨v, hv1, hv2⟩ := hall i y (.ref k) hy hv
    cases hv2 with
    | ref hk' =>
      have : g.ad k = some _ := hk'
      rw [hk] at this
      cases this
      exact ⟨_, hv1, r'⟩
end
end Mine
end

-- E17
section
open PySem PySem.W PyProof.Rows
set_option linter.unusedVariables false
set_option maxRecDepth 100000
namespace Mine

noncomputable def Sx (c : Cx) : Sc := ⟨c.names, c.env.scope⟩
noncomputable def goodShape (e : Expr) : Bool := match e with
  | .Starred .. => false
  | .Set .. => false
  | _ => true
theorem chkE_shape {S : Sc} {ce : CE} {e : Expr} (h : chkE S ce e = true) : goodShape e = true := by
  cases e <;> first
    | rfl
    | (exfalso; cases ce <;> first | exact Bool.noConfusion h | exact Bool.noConfusion (show false = true from h))
theorem goodShape_notStar {e : Expr} (h : goodShape e = true) : notStarB e = true := by cases e <;> first | rfl | exact h
theorem goodShape_fold {e : Expr} (h : goodShape e = true) (env : Env) : ∀ x, foldedSetIterable e env x = pure x := by intro x; cases e <;> first | rfl | exact Bool.noConfusion h
theorem chkEs_noStar {S : Sc} : ∀ {ces : CEs} {es : List Expr}, chkEs S ces es = true → es.all notStarB = true
  | .nil, [], _ => rfl
  | .nil, _ :: _, h => nomatch h
  | .cons _ _, [], h => nomatch h
  | .cons a as, e :: r, h => by
    have h := Bool.and_eq_true_iff.mp h
    rw [List.all_cons, goodShape_notStar (chkE_shape h.1), chkEs_noStar h.2]; rfl

section
variable {c : Cx} {σ : AS} {g : Gh} {s : Shared} {Φ : Spec1}

theorem hh_of {c : Cx} {b : Bool} (hh : c.A.handled = none ∨ b = true) (h : b = false) : c.A.handled = none := hh.elim id fun q => by rw [h] at q; cases q

theorem Ok.sub {Q : AV → AS → Prop} {Q' : Value → Shared → Prop} {g1 : Gh} {σ1 : AS} (h : Ok RV c g Q Q') (le : g.le g1) {P : AV → Prop} (hP : ∀ a, P a → Q a σ1) : Ok RV c g1 (fun r σ' => σ' = σ1 ∧ P r) Q' :=
  fun v a σ' g' s' l' I' r q => h v a σ' g' s' (le.trans l') I' r (by rw [q.1]; exact hP _ q.2)

theorem ev_part (ok : CxOk c) {n v : Option Nat} {o : Option Expr} {p : Option Int} {Q' : Value → Shared → Prop} {E' : Value → Shared → Prop} (h : chkPart (Sx c) n v o = true) (hp : partOf σ n v = some p) (I : Inv c g σ s)
    (k : ∀ vl s', Inv c g σ s' → IsPart vl p → (∀ k, p = some k → 0 ≤ k) → Q' vl s') : wpAny c.M c.A (evalPart o c.env) Q' E' s := by
  unfold chkPart at h
  split at h
  · simp only [Bool.and_eq_true, beq_iff_eq] at h
    obtain ⟨rfl, rfl⟩ := h
    cases hp
    rw [evalPart_none]
    exact wpAny_pure (k _ _ I .none (fun _ e => nomatch e))
  · simp only [Bool.and_eq_true, beq_iff_eq] at h
    obtain ⟨rfl, h⟩ := h
    cases n with
    | none => cases h
    | some m =>
      have h := beq_iff_eq.mp (show (_ == (m : Int)) = true from h)
      subst h
      cases hp
      rw [evalPart_some]
      exact wpAny_Constant_int (k _ _ (I.toks _) (.int _ _) (fun _ e => by cases e; lia))
  · simp only [Bool.and_eq_true, beq_iff_eq] at h
    obtain ⟨rfl, h⟩ := h
    cases v with
    | none => cases h
    | some i =>
      obtain ⟨x, q, rfl, hx⟩ := isLoc_name (S := Sx c) h
      have hp : (match σ.get i with | some (.int k) => if 0 ≤ k then some (some k) else none | _ => none) = some p := hp
      split at hp
      · rename_i z hz
        split at hp
        · rename_i h0
          cases hp
          rw [evalPart_some]
          refine ev_loc ok I hx hz fun w r => ?_
          obtain ⟨t, rfl⟩ := r.int_inv
          exact k _ _ I (.int _ _) (fun _ e => by cases e; exact h0)
        · cases hp
      · cases hp

theorem atom_2 {a : CE} (h : a.atom = true) : a.atom2 = true := by cases a <;> first | exact h | exact Bool.noConfusion h
theorem atoms_2 : (es : CEs) → es.atoms = true → es.atoms2 = true
  | .nil, _ => rfl
  | .cons _ es, h => Bool.and_eq_true_iff.mpr ⟨atom_2 (Bool.and_eq_true_iff.mp h).1, atoms_2 es (Bool.and_eq_true_iff.mp h).2⟩
theorem atom_simple {a : CE} (h : a.atom2 = true) : a.simple = true := by cases a <;> first | exact h | exact atoms_2 _ h
noncomputable abbrev EA (Φ : Spec1) (c : Cx) (ce : CE) (e : Expr) : Prop := EOk Φ c ce e ∧ TOk Φ c ce e
set_option maxHeartbeats 2000000 in
mutual
theorem sndE (ok : CxOk c) (K : c.A.handled = none → CallsOk Φ c) : (ce : CE) → (e : Expr) → chkE (Sx c) ce e = true → (c.A.handled = none ∨ ce.simple = true) → EOk Φ c ce e ∧ TOk Φ c ce e
  | .var i, e, h, hh => by
    obtain ⟨x, p, rfl, hx⟩ := isLoc_name h
    have hE : EOk Φ c (.var i) (.Name x p) := by
      intro σ Q X hw g s Q' E' I hok hbad
      have hw : optP (σ.get i) (fun a => Q a σ) := hw
      exact optP_el hw fun a ha hw => ev_loc ok I hx ha fun v r => hok _ _ _ _ _ (.refl g) I r hw
    exact ⟨hE, .of hE rfl⟩
  | .frz i, e, h, hh => by
    obtain ⟨x, p, rfl, hx⟩ := isLoc_name h
    have hE : EOk Φ c (.frz i) (.Name x p) := by
      intro σ Q X hw g s Q' E' I hok hbad
      exact frzP_el hw (fun k xs ha hC hw => ev_frz ok I hx ha hC fun v g' le I' r => hok _ _ _ _ _ le I' r hw) (fun xs ha hw => ev_loc ok I hx ha fun v r => hok _ _ _ _ _ (.refl g) I r hw)
    exact ⟨hE, .of hE rfl⟩
  | .int n, e, h, hh => by
    refine pInt_el (M := EA Φ c (.int n)) h fun m k p h => ?_
    have hm : m = n := beq_iff_eq.mp h
    subst hm
    have hE : EOk Φ c (.int m) (.Constant (.int m) k p) := by
      intro σ Q X hw g s Q' E' I hok hbad
      exact wpAny_Constant_int (hok _ _ _ _ _ (.refl g) (I.toks _) (.int _ _) hw)
    exact ⟨hE, .of hE rfl⟩
  | .neg a, e, h, hh => by
    have h0 := hh_of hh rfl
    refine pNeg_el (M := EA Φ c (.neg a)) h fun x p h => ?_
    have A := (sndE ok K a x h (.inl h0)).1
    have hE : EOk Φ c (.neg a) (.UnaryOp .USub x p) := by
      intro σ Q X hw g s Q' E' I hok hbad
      refine wpAny_UnaryOp (A σ _ X hw g s _ E' I (fun v av σ' g' s' le I' r q => ?_) hbad)
      cases av with
      | int n =>
        obtain ⟨t, rfl⟩ := r.int_inv
        exact neg_int (hok _ _ _ _ _ le (I'.toks _) (.int _ _) q)
      | _ => cases q
    exact ⟨hE, .of hE rfl⟩
  | .str x, e, h, hh => by
    refine pStr_el (M := EA Φ c (.str x)) h fun m k p h => ?_
    have hm : m = x := beq_iff_eq.mp h
    subst hm
    have hE : EOk Φ c (.str m) (.Constant (.str m) k p) := by
      intro σ Q X hw g s Q' E' I hok hbad
      exact wpAny_Constant_str (hok _ _ _ _ _ (.refl g) (I.toks _) (.str _ _) hw)
    exact ⟨hE, .of hE rfl⟩
  | .non, e, h, hh => by
    refine pNon_el (M := EA Φ c .non) h fun k p h => ?_
    have hE : EOk Φ c .non (.Constant .none k p) := by
      intro σ Q X hw g s Q' E' I hok hbad
      exact wpAny_Constant_none (hok _ _ _ _ _ (.refl g) I .non hw)
    exact ⟨hE, .of hE rfl⟩
  | .bool b, e, h, hh => by
    refine pBool_el (M := EA Φ c (.bool b)) h fun m k p h => ?_
    have hm : m = b := beq_iff_eq.mp h
    subst hm
    have hE : EOk Φ c (.bool m) (.Constant (.bool m) k p) := by
      intro σ Q X hw g s Q' E' I hok hbad
      exact wpAny_Constant_bool (hok _ _ _ _ _ (.refl g) I (.bool _) hw)
    exact ⟨hE, .of hE rfl⟩
  | .gint x n, e, h, hh => by
    have h : (isGlob (Sx c) x e && gints.lookup x == some n) = true := h
    simp only [Bool.and_eq_true, beq_iff_eq] at h
    obtain ⟨p, rfl, hk, hd⟩ := isGlob_name h.1
    obtain ⟨t, hv⟩ := c.W.gint h.2
    have hE : EOk Φ c (.gint x n) (.Name x p) := by
      intro σ Q X hw g s Q' E' I hok hbad
      exact ev_glob ok I hk hd hv (hok _ _ _ _ _ (.refl g) I (.int _ _) hw)
    exact ⟨hE, .of hE rfl⟩
  | .tup es, e, h, hh => by
    refine dTup_el (M := EA Φ c (.tup es)) h fun xs k p h => ?_
    have A := sndEs ok K es xs h (hh.imp_right fun q => q)
    have hE : EOk Φ c (.tup es) (.Tuple xs k p) := by
      intro σ Q X hw g s Q' E' I hok hbad
      refine wpAny_Tuple (A _ σ _ X hw g s _ E' I (fun vs av σ' g' s' le I' r q => ⟨?_, ?_⟩) hbad)
      · rw [r.length, sizeLine_val]; have := q.1; lia
      · exact (hok.le le).tuple I' r q.2 s'.toks
    exact ⟨hE, .of hE rfl⟩
  | .lst es, e, h, hh => by
    have h0 := hh_of hh rfl
    refine dList_el (M := EA Φ c (.lst es)) h fun xs p h => ?_
    have A := sndEs ok K es xs h (.inl h0)
    have hE : EOk Φ c (.lst es) (.List xs p) := by
      intro σ Q X hw g s Q' E' I hok hbad
      refine wpAny_List (A _ σ _ X hw g s _ E' I (fun vs av σ' g' s' le I' r q => ⟨?_, ?_⟩) hbad)
      · rw [r.length, sizeLine_val]; have := q.1; lia
      · exact (hok.le le).list I' r q.2 s'.toks
    exact ⟨hE, .of hE rfl⟩
  | .bin op a b, e, h, hh => by
    have h0 := hh_of hh rfl
    refine dBin_el (M := EA Φ c (.bin op a b)) h fun l o r p h => ?_
    simp only [Bool.and_eq_true, beq_iff_eq] at h
    obtain ⟨⟨rfl, h1⟩, h2⟩ := h
    have A := (sndE ok K a l h1 (.inl h0)).1
    have B := (sndE ok K b r h2 (.inl h0)).1
    have hE : EOk Φ c (.bin o a b) (.BinOp l o r p) := by
      intro σ Q X hw g s Q' E' I hok hbad
      refine wpAny_BinOp (A σ _ X hw g s _ E' I (fun u x σ1 g1 s1 le1 I1 r1 q1 => ?_) hbad)
      refine B σ1 _ X q1 g1 s1 _ E' I1 (fun v y σ2 g2 s2 le2 I2 r2 q2 => ?_) (hbad.le le1)
      exact binS_sound o I2 (r1.le le2) r2 q2 (hok.sub (le1.trans le2) fun a q => q)
    exact ⟨hE, .of hE rfl⟩
  | .cmp op a b, e, h, hh => by
    have h0 := hh_of hh rfl
    refine pCmp_el (M := EA Φ c (.cmp op a b)) h fun l o r p h => ?_
    simp only [Bool.and_eq_true, beq_iff_eq, Bool.not_eq_true'] at h
    obtain ⟨⟨⟨rfl, hm⟩, h1⟩, h2⟩ := h
    have A := (sndE ok K a l h1 (.inl h0)).1
    have B := (sndE ok K b r h2 (.inl h0)).1
    constructor
    · intro σ Q X hw g s Q' E' I hok hbad
      refine wpAny_Compare1 (A σ _ X hw g s _ E' I (fun u x σ1 g1 s1 le1 I1 r1 q1 => ?_) hbad) hm
      refine B σ1 _ X q1 g1 s1 _ E' I1 (fun v y σ2 g2 s2 le2 I2 r2 q2 => ?_) (hbad.le le1)
      refine cmpS_sound ok o I2 (r1.le le2) r2 q2 (hok.sub (le1.trans le2) fun a q => ?_)
      obtain ⟨b, rfl, q⟩ := q; exact q
    · intro σ Q X Qb hw hq g s Q' E' I hok hbad
      refine wpAny_isTrue_Compare1 (A σ _ X hw g s _ E' I (fun u x σ1 g1 s1 le1 I1 r1 q1 => ?_) hbad) hm
      refine B σ1 _ X q1 g1 s1 _ E' I1 (fun v y σ2 g2 s2 le2 I2 r2 q2 => ?_) (hbad.le le1)
      refine cmpS_sound ok o I2 (r1.le le2) r2 q2 (fun v a σ' g' s' le I' r q => ?_)
      obtain ⟨rfl, b, rfl, q⟩ := q
      obtain ⟨b', e1, e2⟩ := hq _ _ q
      cases e1
      rw [r.bool_inv]
      exact wpAny_truthy_bool (hok _ _ _ _ _ ((le1.trans le2).trans le) I' rfl e2)
  | .bop op es, e, h, hh => by
    have h0 := hh_of hh rfl
    refine dBool_el (M := EA Φ c (.bop op es)) h fun o xs p h => ?_
    simp only [Bool.and_eq_true, beq_iff_eq] at h
    obtain ⟨rfl, h1⟩ := h
    have A := sndB ok K o es xs h1 h0
    constructor
    · intro σ Q X hw g s Q' E' I hok hbad
      rw [arm_eval_BoolOp]
      exact A.1 _ σ Q X hw g s Q' E' I hok hbad
    · intro σ Q X Qb hw hq g s Q' E' I hok hbad
      exact wpAny_isTrue_BoolOp (A.2 σ Q X Qb hw hq g s Q' E' I hok hbad)
  | .not a, e, h, hh => by
    have h0 := hh_of hh rfl
    refine pNot_el (M := EA Φ c (.not a)) h fun x p h => ?_
    have A := sndE ok K a x h (.inl h0)
    constructor
    · intro σ Q X hw g s Q' E' I hok hbad
      refine wpAny_UnaryOp (A.1 σ _ X hw g s _ E' I (fun v av σ' g' s' le I' r q => ?_) hbad)
      dsimp only at q
      cases ht : tr av with
      | none => rw [ht] at q; cases q
      | some b =>
        rw [ht] at q
        rw [tr_some ht] at r
        rw [r.bool_inv]
        exact not_value (wpAny_truthy_bool (hok _ _ _ _ _ le I' (.bool _) q))
    · intro σ Q X Qb hw hq g s Q' E' I hok hbad
      refine wpAny_isTrue_Not (A.2 σ _ X (fun b σ' => Q (.bool (!b)) σ') hw (fun av σ' q => ?_) g s _ E' I (fun v b σ' g' s' le I' r q => ?_) hbad)
      · cases ht : tr av with
        | none => rw [ht] at q; cases q
        | some b => rw [ht] at q; exact ⟨b, rfl, q⟩
      · cases r
        obtain ⟨b', e1, e2⟩ := hq _ _ q
        cases e1
        exact hok _ _ _ _ _ le I' rfl e2
  | .ite cc a b, e, h, hh => by
    have h0 := hh_of hh rfl
    refine dIf_el (M := EA Φ c (.ite cc a b)) h fun t x y p h => ?_
    simp only [Bool.and_eq_true] at h
    obtain ⟨⟨h1, h2⟩, h3⟩ := h
    have C := (sndE ok K cc t h1 (.inl h0)).2
    have A := sndE ok K a x h2 (.inl h0)
    have B := sndE ok K b y h3 (.inl h0)
    constructor
    · intro σ Q X hw g s Q' E' I hok hbad
      refine wpAny_IfExp (C σ _ X (fun b' σ' => if b' = true then wpE Φ a σ' Q X else wpE Φ b σ' Q X) hw (fun av σ' q => ?_) g s _ E' I (fun v b' σ' g' s' le I' r q => ?_) hbad)
      · cases ht : tr av with
        | none => rw [ht] at q; cases q
        | some b' => rw [ht] at q; refine ⟨b', rfl, ?_⟩; cases b' <;> exact q
      · cases r
        cases v
        · exact B.1 σ' Q X q g' s' Q' E' I' (hok.le le) (hbad.le le)
        · exact A.1 σ' Q X q g' s' Q' E' I' (hok.le le) (hbad.le le)
    · intro σ Q X Qb hw hq g s Q' E' I hok hbad
      rw [arm_isTrue_IfExp]
      refine wpAny_bind (C σ _ X (fun b' σ' => if b' = true then wpE Φ a σ' Q X else wpE Φ b σ' Q X) hw (fun av σ' q => ?_) g s _ E' I (fun v b' σ' g' s' le I' r q => ?_) hbad)
      · cases ht : tr av with
        | none => rw [ht] at q; cases q
        | some b' => rw [ht] at q; refine ⟨b', rfl, ?_⟩; cases b' <;> exact q
      · cases r
        cases v
        · exact B.2 σ' Q X Qb q hq g' s' Q' E' I' (hok.le le) (hbad.le le)
        · exact A.2 σ' Q X Qb q hq g' s' Q' E' I' (hok.le le) (hbad.le le)
  | .call x f es, e, h, hh => by
    have h0 := hh_of hh rfl
    refine pCall_el (M := EA Φ c (.call x f es)) h fun gg xs p h => ?_
    simp only [Bool.and_eq_true, beq_iff_eq, decide_eq_true_eq] at h
    obtain ⟨⟨⟨h1, h2⟩, h3⟩, h4⟩ := h
    obtain ⟨np, rfl, hk, hd⟩ := isGlob_name h1
    have A := sndEs ok K es xs h3 (.inl h0)
    have mem : (x, f) ∈ globs ++ meths := List.mem_append_left _ (lookup_mem h2)
    obtain ⟨fd, sl, hfn⟩ := isFnObj_spec (all_fns c.W.w.params _ mem)
    have hE : EOk Φ c (.call x f es) (.Call (.Name x np) xs [] p) := by
      intro σ Q X hw g s Q' E' I hok hbad
      refine Call_ (ev_glob ok I hk hd (c.W.glob h2) (ev_callWithF (fd := fd) (sl := sl) (chkEs_noStar h3) (A _ σ _ X hw g s _ E' I (fun vs av σ' g' s' le I' r q => ⟨I'.KIn _ _ hfn, ?_⟩) hbad)))
      exact (K h0).fn mem q.1 q.2 I' r (hok.le le) (hbad.le le)
    exact ⟨hE, .of hE rfl⟩
  | .meth i x f es, e, h, hh => by
    have h0 := hh_of hh rfl
    refine pMeth_el (M := EA Φ c (.meth i x f es)) h fun o y p xs q h => ?_
    simp only [Bool.and_eq_true, beq_iff_eq, decide_eq_true_eq] at h
    obtain ⟨⟨⟨⟨⟨h1, rfl⟩, h3⟩, h4⟩, h5⟩, h6⟩ := h
    obtain ⟨nm, np, rfl, hx⟩ := isLoc_name h1
    have A := sndEs ok K es xs h5 (.inl h0)
    have mem : (y, f) ∈ globs ++ meths := List.mem_append_right _ (lookup_mem h3)
    have hE : EOk Φ c (.meth i y f es) (.Call (.Attribute (.Name nm np) y p) xs [] q) := by
      intro σ Q X hw g s Q' E' I hok hbad
      refine insP_el hw fun fs ha hC hw => ?_
      refine ev_meth ok I hx ha hC h3 (chkEs_noStar h5) h6 (by simpa using h4) fun v r => ?_
      refine A _ σ _ X hw g s _ E' I (fun vs av σ' g' s' le I' r' qq => ⟨σ', g', I', ?_⟩) hbad
      exact (K h0).fn mem (by unfold AV.closedL; rw [qq.1]; rfl) qq.2 I' (.cons (r.le le) r') (hok.le le) (hbad.le le)
    exact ⟨hE, .of hE rfl⟩
  | .len a, e, h, hh => by
    have h0 := hh_of hh rfl
    refine pCall1_el (M := EA Φ c (.len a)) h fun gg x p h => ?_
    simp only [Bool.and_eq_true] at h
    obtain ⟨np, rfl, hk, hd⟩ := isGlob_name h.1
    have A := (sndE ok K a x h.2 (.inl h0)).1
    have hE : EOk Φ c (.len a) (.Call (.Name "len" np) [x] [] p) := by
      intro σ Q X hw g s Q' E' I hok hbad
      refine ev_callB ok I hk hd c.W.n_len (by decide) b_len (notStar_of _ _ (goodShape_notStar (chkE_shape h.2))) (A σ _ X hw g s _ E' I (fun v av σ' g' s' le I' r q => ?_) hbad)
      refine optP_el q fun xs hx q => ?_
      exact ev_len I' r hx q.1 (hok.sub le fun a e => by rw [e]; exact q.2)
    exact ⟨hE, .of hE rfl⟩
  | .chr a, e, h, hh => by
    have h0 := hh_of hh rfl
    refine pCall1_el (M := EA Φ c (.chr a)) h fun gg x p h => ?_
    simp only [Bool.and_eq_true] at h
    obtain ⟨np, rfl, hk, hd⟩ := isGlob_name h.1
    have A := (sndE ok K a x h.2 (.inl h0)).1
    have hE : EOk Φ c (.chr a) (.Call (.Name "chr" np) [x] [] p) := by
      intro σ Q X hw g s Q' E' I hok hbad
      refine ev_callB ok I hk hd c.W.n_chr (by decide) b_chr (notStar_of _ _ (goodShape_notStar (chkE_shape h.2))) (A σ _ X hw g s _ E' I (fun v av σ' g' s' le I' r q => ?_) hbad)
      cases av with
      | int n =>
        obtain ⟨t, rfl⟩ := r.int_inv
        exact chr_of_range q.1 q.2.1 (hok _ _ _ _ _ le (I'.toks _) (.str _ _) q.2.2)
      | _ => cases q
    exact ⟨hE, .of hE rfl⟩
  | .abs a, e, h, hh => by
    have h0 := hh_of hh rfl
    refine pCall1_el (M := EA Φ c (.abs a)) h fun gg x p h => ?_
    simp only [Bool.and_eq_true] at h
    obtain ⟨np, rfl, hk, hd⟩ := isGlob_name h.1
    have A := (sndE ok K a x h.2 (.inl h0)).1
    have hE : EOk Φ c (.abs a) (.Call (.Name "abs" np) [x] [] p) := by
      intro σ Q X hw g s Q' E' I hok hbad
      refine ev_callB ok I hk hd c.W.n_abs (by decide) b_abs (notStar_of _ _ (goodShape_notStar (chkE_shape h.2))) (A σ _ X hw g s _ E' I (fun v av σ' g' s' le I' r q => ?_) hbad)
      cases av with
      | int n =>
        obtain ⟨t, rfl⟩ := r.int_inv
        exact call_abs_int fun u tk => hok _ _ _ _ _ le (I'.toks _) (.int _ _) q
      | _ => cases q
    exact ⟨hE, .of hE rfl⟩
  | .int' a, e, h, hh => by
    have h0 := hh_of hh rfl
    refine pCall1_el (M := EA Φ c (.int' a)) h fun gg x p h => ?_
    simp only [Bool.and_eq_true] at h
    obtain ⟨np, rfl, hk, hd⟩ := isGlob_name h.1
    have A := (sndE ok K a x h.2 (.inl h0)).1
    have hE : EOk Φ c (.int' a) (.Call (.Name "int" np) [x] [] p) := by
      intro σ Q X hw g s Q' E' I hok hbad
      refine ev_callT ok I hk hd c.W.n_int (by decide) b_int (notStar_of _ _ (goodShape_notStar (chkE_shape h.2))) (A σ _ X hw g s _ E' I (fun v av σ' g' s' le I' r q => ?_) hbad)
      cases av with
      | int n =>
        obtain ⟨t, rfl⟩ := r.int_inv
        exact call_int_int (hok _ _ _ _ _ le I' (.int _ _) q)
      | _ => cases q
    exact ⟨hE, .of hE rfl⟩
  | .max a b, e, h, hh => by
    have h0 := hh_of hh rfl
    refine pCall2_el (M := EA Φ c (.max a b)) h fun gg x y p h => ?_
    simp only [Bool.and_eq_true] at h
    obtain ⟨np, rfl, hk, hd⟩ := isGlob_name h.1.1
    have A := (sndE ok K a x h.1.2 (.inl h0)).1
    have B := (sndE ok K b y h.2 (.inl h0)).1
    have hE : EOk Φ c (.max a b) (.Call (.Name "max" np) [x, y] [] p) := by
      intro σ Q X hw g s Q' E' I hok hbad
      refine ev_callB2 ok I hk hd c.W.n_max (by decide) b_max (notStar_of _ _ (goodShape_notStar (chkE_shape h.1.2))) (notStar_of _ _ (goodShape_notStar (chkE_shape h.2))) (A σ _ X hw g s _ E' I (fun u x σ1 g1 s1 le1 I1 r1 q1 => ?_) hbad)
      refine B σ1 _ X q1 g1 s1 _ E' I1 (fun v y σ2 g2 s2 le2 I2 r2 q2 => ?_) (hbad.le le1)
      cases x with
      | int m =>
        cases y with
        | int n =>
          obtain ⟨t, rfl⟩ := r1.int_inv; obtain ⟨t', rfl⟩ := r2.int_inv
          exact ev_max h0 I2 (hok.sub (le1.trans le2) fun a e => by rw [e]; exact q2)
        | _ => cases q2
      | _ => cases q2
    exact ⟨hE, .of hE rfl⟩
  | .tuple a, e, h, hh => by
    have h0 := hh_of hh rfl
    refine pCall1_el (M := EA Φ c (.tuple a)) h fun gg x p h => ?_
    simp only [Bool.and_eq_true] at h
    obtain ⟨np, rfl, hk, hd⟩ := isGlob_name h.1
    have A := (sndE ok K a x h.2 (.inl h0)).1
    have hE : EOk Φ c (.tuple a) (.Call (.Name "tuple" np) [x] [] p) := by
      intro σ Q X hw g s Q' E' I hok hbad
      refine ev_callT ok I hk hd c.W.n_tuple (by decide) b_tuple (notStar_of _ _ (goodShape_notStar (chkE_shape h.2))) (A σ _ X hw g s _ E' I (fun v av σ' g' s' le I' r q => ?_) hbad)
      refine optP_el q fun xs hx q => ?_
      exact ev_tuple I' r hx q.1 (hok.sub le fun a e => by rw [e]; exact q.2)
    exact ⟨hE, .of hE rfl⟩
  | .join a, e, h, hh => by
    have h0 := hh_of hh rfl
    refine pJoin_el (M := EA Φ c (.join a)) h fun s0 k0 p0 y p1 lc p2 h => ?_
    refine pOf_el (M := fun z => EA Φ c (.join a) (.Call (.Attribute (.Constant (.str s0) k0 p0) y p1) [z] [] p2)) h fun f v p5 t it sc p7 h => ?_
    simp only [Bool.and_eq_true, beq_iff_eq] at h
    obtain ⟨⟨⟨⟨⟨⟨⟨rfl, rfl⟩, hl⟩, hf⟩, hv⟩, ht⟩, hsc⟩, ha⟩ := h
    obtain ⟨p3, rfl⟩ := isName_spec hf
    obtain ⟨p4, rfl⟩ := isName_spec hv
    obtain ⟨p6, rfl⟩ := isName_spec ht
    have A := (sndE ok K a it ha (.inl h0)).1
    have hE : EOk Φ c (.join a) (.Call (.Attribute (.Constant (.str "") k0 p0) "join" p1) [.ListComp (.Call (.Name "chr" p3) [.Name "code" p4] [] p5) [⟨.Name "code" p6, it, [], 0⟩] sc p7] [] p2) := by
      intro σ Q X hw g s Q' E' I hok hbad
      refine ev_join ok h0 I hsc (by simpa using hl) (goodShape_fold (chkE_shape ha) _) fun s I => A σ _ X hw g s _ E' I (fun v av σ' g' s' le I' r q => ?_) hbad
      refine optP_el q fun xs hx q => ?_
      obtain ⟨ns, hxs, q1, q2, q3⟩ := q
      exact ⟨σ', g', av, xs, ns, le, I', r, hx, hxs, q1, q2, fun s2 t I2 => hok _ _ _ _ _ le I2 (.str _ _) q3⟩
    exact ⟨hE, .of hE rfl⟩
  | .ords a, e, h, hh => by
    have h0 := hh_of hh rfl
    refine pOf_el (M := EA Φ c (.ords a)) h fun f v p5 t it sc p7 h => ?_
    simp only [Bool.and_eq_true] at h
    obtain ⟨⟨⟨⟨hf, hv⟩, ht⟩, hsc⟩, ha⟩ := h
    obtain ⟨p3, rfl⟩ := isName_spec hf
    obtain ⟨p4, rfl⟩ := isName_spec hv
    obtain ⟨p6, rfl⟩ := isName_spec ht
    have A := (sndE ok K a it ha (.inl h0)).1
    have hE : EOk Φ c (.ords a) (.ListComp (.Call (.Name "ord" p3) [.Name "mark" p4] [] p5) [⟨.Name "mark" p6, it, [], 0⟩] sc p7) := by
      intro σ Q X hw g s Q' E' I hok hbad
      refine ev_ords ok h0 I hsc (goodShape_fold (chkE_shape ha) _) (A σ _ X hw g s _ E' I (fun v av σ' g' s' le I' r q => ?_) hbad)
      cases av with
      | str y => exact ⟨σ', g', y, le, I', r, q.1, fun v' g2 s2 le2 I2 r2 => hok _ _ _ _ _ (le.trans le2) I2 r2 q.2⟩
      | _ => cases q
    exact ⟨hE, .of hE rfl⟩
  | .wholes a, e, h, hh => by
    have h0 := hh_of hh rfl
    refine pWholes_el (M := EA Φ c (.wholes a)) h fun el t it sc p11 h => ?_
    refine pModPow_el (M := fun z => EA Φ c (.wholes a) (.ListComp z [⟨t, it, [], 0⟩] sc p11)) h fun f gg v p4 p5 ten k1 p6 tw k2 p7 p8 p9 h => ?_
    simp only [Bool.and_eq_true, beq_iff_eq] at h
    obtain ⟨⟨⟨⟨⟨⟨⟨⟨⟨⟨⟨rfl, rfl⟩, hf⟩, hg⟩, hv⟩, ht⟩, hk⟩, _⟩, _⟩, _⟩, hn⟩, ha⟩ := h
    obtain ⟨p1, rfl⟩ := isName_spec hf
    obtain ⟨p2, rfl⟩ := isName_spec hg
    obtain ⟨p3, rfl⟩ := isName_spec hv
    obtain ⟨p10, rfl⟩ := isName_spec ht
    have A := (sndE ok K a it ha (.inl h0)).1
    have hE : EOk Φ c (.wholes a) (.ListComp (.BinOp (.Call (.Name "abs" p1) [.Call (.Name "int" p2) [.Name "cell" p3] [] p4] [] p5) .Mod (.BinOp (.Constant (.int 10) k1 p6) .Pow (.Constant (.int 25) k2 p7) p8) p9) [⟨.Name "cell" p10, it, [], 0⟩] sc p11) := by
      intro σ Q X hw g s Q' E' I hok hbad
      refine ev_wholes ok h0 I hk hn (goodShape_fold (chkE_shape ha) _) (A σ _ X hw g s _ E' I (fun v av σ' g' s' le I' r q => ?_) hbad)
      refine optP_el q fun xs hx q => ?_
      obtain ⟨ns, hxs, q1, q2⟩ := q
      exact ⟨σ', g', av, xs, ns, le, I', r, hx, hxs, q1, fun v' g2 s2 le2 I2 r2 => hok _ _ _ _ _ (le.trans le2) I2 r2 q2⟩
    exact ⟨hE, .of hE rfl⟩
  | .find x a, e, h, hh => by
    have h0 := hh_of hh rfl
    refine pFind_el (M := EA Φ c (.find x a)) h fun x' k p0 y p v q h => ?_
    simp only [Bool.and_eq_true, beq_iff_eq] at h
    obtain ⟨⟨⟨rfl, rfl⟩, hl⟩, ha⟩ := h
    have A := (sndE ok K a v ha (.inl h0)).1
    have hE : EOk Φ c (.find x' a) (.Call (.Attribute (.Constant (.str x') k p0) "find" p) [v] [] q) := by
      intro σ Q X hw g s Q' E' I hok hbad
      refine Call_method1 rfl (notStar_of c.env v (goodShape_notStar (chkE_shape ha)) []) (by simpa using hl) (Calls.Constant_str (SB.find ?_))
      refine A σ _ X hw g _ _ E' (I.toks _) (fun w av σ' g' s' le I' r q => ?_) hbad
      cases av with
      | str y =>
        obtain ⟨t, rfl⟩ := r.str_inv
        exact ⟨y, t, rfl, hok _ _ _ _ _ le (I'.toks _) (.int _ _) q⟩
      | _ => cases q
    exact ⟨hE, .of hE rfl⟩
  | .starts i x, e, h, hh => by
    have h0 := hh_of hh rfl
    refine pStarts_el (M := EA Φ c (.starts i x)) h fun o y p x' k p0 q h => ?_
    simp only [Bool.and_eq_true, beq_iff_eq] at h
    obtain ⟨⟨⟨h1, rfl⟩, rfl⟩, hl⟩ := h
    obtain ⟨nm, np, rfl, hx⟩ := isLoc_name h1
    have hE : EOk Φ c (.starts i x') (.Call (.Attribute (.Name nm np) "startswith" p) [.Constant (.str x') k p0] [] q) := by
      intro σ Q X hw g s Q' E' I hok hbad
      refine strP_el hw fun y ha hw => ?_
      refine Call_method1 rfl rfl (by simpa using hl) (ev_loc ok I hx ha fun v r => ?_)
      obtain ⟨t, rfl⟩ := r.str_inv
      refine SB.startswith (Calls.Constant_str ⟨_, _, rfl, ?_⟩)
      exact hok _ _ _ _ _ (.refl g) (I.toks _) (.bool _) hw
    exact ⟨hE, .of hE rfl⟩
  | .sub a i, e, h, hh => by
    have h0 := hh_of hh rfl
    refine dSub_el (M := EA Φ c (.sub a i)) h fun v sl p h => ?_
    simp only [Bool.and_eq_true] at h
    obtain ⟨⟨h1, h2⟩, h3⟩ := h
    have A := (sndE ok K a v h2 (.inl h0)).1
    have B := (sndE ok K i sl h3 (.inl h0)).1
    have hE : EOk Φ c (.sub a i) (.Subscript v sl p) := by
      intro σ Q X hw g s Q' E' I hok hbad
      refine Subscript_ (A σ _ X hw g s _ E' I (fun u x σ1 g1 s1 le1 I1 r1 q1 => ?_) hbad)
      refine B σ1 _ X q1 g1 s1 _ E' I1 (fun v y σ2 g2 s2 le2 I2 r2 q2 => ?_) (hbad.le le1)
      exact ev_item (P' := fun v => Q v σ2) I2 (r1.le le2) r2 h1 (by cases y <;> first | exact q2.elim | (cases x <;> first | exact q2 | (revert q2; dsimp only; generalize AS.seq σ2 _ = o; intro q2; cases o <;> exact q2))) (hok.sub (le1.trans le2) fun a q => q)
    exact ⟨hE, .of hE rfl⟩
  | .slice a lo hi lv hv, e, h, hh => by
    have h0 := hh_of hh rfl
    refine pSlice_el (M := EA Φ c (.slice a lo hi lv hv)) h fun v l hx' p1 p2 h => ?_
    simp only [Bool.and_eq_true] at h
    obtain ⟨⟨h1, h2⟩, h3⟩ := h
    have A := (sndE ok K a v h1 (.inl h0)).1
    have hE : EOk Φ c (.slice a lo hi lv hv) (.Subscript v (.Slice l hx' none p1) p2) := by
      intro σ Q X hw g s Q' E' I hok hbad
      refine ev_subSlice (A σ _ X hw g s _ E' I (fun u x σ1 g1 s1 le1 I1 r1 q1 => ?_) hbad)
      dsimp only at q1
      split at q1
      · rename_i xs l' h' e1 e2 e3
        refine ev_part ok h2 e2 I1 fun vl s2 I2 pl hl => ?_
        refine ev_part ok h3 e3 I2 fun vu s3 I3 pu hu => ?_
        exact ev_slice I3 r1 e1 q1.1 hl hu pl pu (hok.sub le1 fun a e => by rw [e]; exact q1.2)
      · cases q1
    exact ⟨hE, .of hE rfl⟩
  | .attr i f, e, h, hh => by
    refine dAttr_el (M := EA Φ c (.attr i f)) h fun o y p h => ?_
    simp only [Bool.and_eq_true, beq_iff_eq] at h
    obtain ⟨h1, rfl⟩ := h
    obtain ⟨nm, np, rfl, hx⟩ := isLoc_name h1
    have hE : EOk Φ c (.attr i f) (.Attribute (.Name nm np) f.name p) := by
      intro σ Q X hw g s Q' E' I hok hbad
      refine attrP_el hw (fun fs v ha hC hv hw => Attribute_name (ev_loc ok I hx ha fun u r => ev_attrI I r hC hv (hok.sub (.refl g) fun a e => by rw [e]; exact hw))) (fun k a r cc ha hw => Attribute_name (ev_loc ok I hx ha fun u ru => ?_))
      cases f <;> first | exact hw.elim | exact ev_attrF I ru rfl (hok.sub (.refl g) fun a e => by rw [e]; exact hw)
    exact ⟨hE, .of hE rfl⟩
  | .newTok a, e, h, hh => by
    have h0 := hh_of hh rfl
    refine pCall1_el (M := EA Φ c (.newTok a)) h fun gg x p h => ?_
    simp only [Bool.and_eq_true] at h
    obtain ⟨np, rfl, hk, hd⟩ := isGlob_name h.1
    have A := (sndE ok K a x h.2 (.inl h0)).1
    have hE : EOk Φ c (.newTok a) (.Call (.Name "Tokenizer" np) [x] [] p) := by
      intro σ Q X hw g s Q' E' I hok hbad
      refine Call_ (ev_glob ok I hk hd c.W.tok ?_)
      have hns := notStar_of c.env x (goodShape_notStar (chkE_shape h.2))
      refine callWith_K c.W.KI (by kernel_rfl) (args_cons (A σ _ X hw g s _ E' I (fun v av σ' g' s' le I' r q => args_nil ⟨I'.KIn, ?_⟩) hbad) (hns _)) (hns _)
      exact (K h0).tk q.1 q.2 I' r (hok.le le)
    exact ⟨hE, .of hE rfl⟩
theorem sndEs (ok : CxOk c) (K : c.A.handled = none → CallsOk Φ c) : (ces : CEs) → (es : List Expr) → chkEs (Sx c) ces es = true → (c.A.handled = none ∨ ces.atoms2 = true) → EsOk Φ c ces es
  | .nil, [], h, hh => by
    intro pos σ Q X hw g s Q' E' I hok hbad
    exact args_nil (hok _ _ _ _ _ (.refl g) I .nil hw)
  | .nil, _ :: _, h, hh => nomatch h
  | .cons _ _, [], h, hh => nomatch h
  | .cons a as, e :: r, h, hh => by
    have h := Bool.and_eq_true_iff.mp h
    have hs : c.A.handled = none ∨ (a.simple = true ∧ as.atoms2 = true) := hh.imp_right fun q => ⟨atom_simple (Bool.and_eq_true_iff.mp q).1, (Bool.and_eq_true_iff.mp q).2⟩
    have A := (sndE ok K a e h.1 (hs.imp_right And.left)).1
    have B := sndEs ok K as r h.2 (hs.imp_right And.right)
    intro pos σ Q X hw g s Q' E' I hok hbad
    refine args_cons (A σ _ X hw g s _ E' I (fun v av σ1 g1 s1 le1 I1 r1 q1 => ?_) hbad) (notStar_of c.env e (goodShape_notStar (chkE_shape h.1)) r)
    exact B pos σ1 _ X q1 g1 s1 _ E' I1 (fun vs xs σ2 g2 s2 le2 I2 r2 q2 => hok _ _ _ _ _ (le1.trans le2) I2 (.cons (r1.le le2) r2) q2) (hbad.le le1)
theorem sndB (ok : CxOk c) (K : c.A.handled = none → CallsOk Φ c) (op : BoolOp) : (ces : CEs) → (es : List Expr) → chkEs (Sx c) ces es = true → c.A.handled = none → BOk Φ c op ces es
  | .nil, _, h, hh => ⟨fun pos σ Q X hw => False.elim hw, fun σ Q X Qb hw => False.elim hw⟩
  | .cons _ _, [], h, hh => nomatch h
  | .cons a .nil, [e], h, hh => by
    have h := Bool.and_eq_true_iff.mp h
    have A := sndE ok K a e h.1 (.inl hh)
    constructor
    · intro pos σ Q X hw g s Q' E' I hok hbad
      exact A.1 σ Q X hw g s Q' E' I hok hbad
    · intro σ Q X Qb hw hq g s Q' E' I hok hbad
      cases op
      · refine wpAny_allTrue_And_cons (A.2 σ Q X Qb hw hq g s _ E' I (fun v b σ' g' s' le I' r q => ?_) hbad)
        cases r
        cases v
        · exact hok _ _ _ _ _ le I' rfl q
        · exact wpAny_allTrue_And_nil (hok _ _ _ _ _ le I' rfl q)
      · refine wpAny_allTrue_Or_cons (A.2 σ Q X Qb hw hq g s _ E' I (fun v b σ' g' s' le I' r q => ?_) hbad)
        cases r
        cases v
        · exact wpAny_allTrue_Or_nil (hok _ _ _ _ _ le I' rfl q)
        · exact hok _ _ _ _ _ le I' rfl q
  | .cons a .nil, e :: _ :: _, h, hh => by
    have h := Bool.and_eq_true_iff.mp h
    exact nomatch h.2
  | .cons a (.cons b bs), [e], h, hh => by
    have h := Bool.and_eq_true_iff.mp h
    exact nomatch h.2
  | .cons a (.cons b bs), e :: e2 :: r, h, hh => by
    have h := Bool.and_eq_true_iff.mp h
    have A := sndE ok K a e h.1 (.inl hh)
    have B := sndB ok K op (.cons b bs) (e2 :: r) h.2 hh
    constructor
    · intro pos σ Q X hw g s Q' E' I hok hbad
      rw [show boolOp pos op (evalEach (e :: e2 :: r) c.env) = (do
        let v ← eval e c.env
        standAt pos
        let t ← holding [v] (truthy v)
        match op, t with
        | .And, false => pure v
        | .Or, true => pure v
        | _, _ => boolOp pos op (evalEach (e2 :: r) c.env)) from rfl]
      refine wpAny_bind (A.1 σ _ X hw g s _ E' I (fun v av σ' g' s' le I' rv q => wpAny_bind (wpAny_standAt (wpAny_bind (wpAny_holding ?_)))) hbad)
      dsimp only at q
      cases ht : tr av with
      | none => rw [ht] at q; cases op <;> cases q
      | some t =>
        rw [ht] at q
        have hav := tr_some ht
        subst hav
        rw [rv.bool_inv]
        refine wpAny_truthy_bool ?_
        cases op <;> cases t
        · exact wpAny_pure (hok _ _ _ _ _ le I' (.bool _) q)
        · exact B.1 pos σ' Q X q g' s' Q' E' I' (hok.le le) (hbad.le le)
        · exact B.1 pos σ' Q X q g' s' Q' E' I' (hok.le le) (hbad.le le)
        · exact wpAny_pure (hok _ _ _ _ _ le I' (.bool _) q)
    · intro σ Q X Qb hw hq g s Q' E' I hok hbad
      have key := A.2 σ _ X (fun t σ' => match op, t with
        | .And, false => Q (.bool false) σ'
        | .Or, true => Q (.bool true) σ'
        | _, _ => wpB Φ op (.cons b bs) σ' Q X) hw (fun av σ' q => by
          cases ht : tr av with
          | none => rw [ht] at q; cases op <;> cases q
          | some t =>
            rw [ht] at q
            have hav := tr_some ht
            subst hav
            refine ⟨t, rfl, ?_⟩
            cases op <;> cases t <;> exact q)
      cases op
      · refine wpAny_allTrue_And_cons (key g s _ E' I (fun v b' σ' g' s' le I' rr q => ?_) hbad)
        cases rr
        cases v
        · obtain ⟨b', e1, e2⟩ := hq _ _ q
          cases e1
          exact hok _ _ _ _ _ le I' rfl e2
        · exact B.2 σ' Q X Qb q hq g' s' Q' E' I' (hok.le le) (hbad.le le)
      · refine wpAny_allTrue_Or_cons (key g s _ E' I (fun v b' σ' g' s' le I' rr q => ?_) hbad)
        cases rr
        cases v
        · exact B.2 σ' Q X Qb q hq g' s' Q' E' I' (hok.le le) (hbad.le le)
        · obtain ⟨b', e1, e2⟩ := hq _ _ q
          cases e1
          exact hok _ _ _ _ _ le I' rfl e2
end
end
end Mine
end

-- E18
section
open PySem PySem.W PyProof.Rows
set_option linter.unusedVariables false
set_option maxRecDepth 100000
namespace Mine

theorem dict_mapFields (o : Obj) (f : Array Value → Array Value) : (o.mapFields f).dict = o.dict := by obtain ⟨c, d, dt, sl⟩ := o; cases dt <;> rfl

section
variable {c : Cx} {σ : AS} {g : Gh} {s : Shared}

theorem Inv.upd (I : Inv c g σ s) {h' : Heap} (t : Nat) (k : ∀ b o, s.heap.get? b = some o → (g.K b ≠ none ∨ b = c.L ∨ ∃ j, g.ad j = some b) → h'.get? b = some o) : Inv c g σ { s with heap := h', toks := t } where
  kept := fun a o e => let ⟨o', h1, h2⟩ := I.kept a o e; ⟨o', k _ _ h1 (.inl (by rw [e]; exact Option.some_ne_none _)), h2⟩
  zin := fun a o e => k _ _ (I.zin a o e) (.inl (fun q => by rw [I.zK a q] at e; cases e))
  zK := I.zK
  base := I.base
  loc := let ⟨m, h1, h2⟩ := I.loc; ⟨m, let ⟨o, es, ep, ho, r⟩ := h1; ⟨o, es, ep, k _ _ ho (.inr (.inl rfl)), r⟩, h2⟩
  KL := I.KL
  cells := fun j C h1 h2 => let ⟨a, q1, q2, q3, q4⟩ := I.cells j C h1 h2; ⟨a, q1, q2, q3, q4.mono (fun _ _ e => e) (fun _ _ e => e) (fun o e => k _ _ e (.inr (.inr ⟨j, q1⟩)))⟩
  inj := I.inj
  adU := I.adU
  adN := I.adN
  outer := fun env he => let ⟨h1, L', o, h2, h3, h4, h5⟩ := I.outer env he; ⟨h1, L', o, h2, h3, k _ _ h4 (.inl h3.2), h5⟩
  gens := I.gens
  os := I.os
  adAt := fun j a e => let ⟨o, h⟩ := I.adAt j a e; ⟨o, k _ _ h (.inr (.inr ⟨j, e⟩))⟩
  adK := I.adK

noncomputable def frs (c : Cx) : List Addr := (c.env :: c.outer).filterMap (·.frame)
theorem frs_mem (ok : CxOk c) {b : Addr} (h : b ∈ frs c) : b = c.L ∨ ∃ env ∈ c.outer, env.frame = some b := by
  obtain ⟨env, he, hf⟩ := List.mem_filterMap.mp h
  rcases List.mem_cons.mp he with rfl | he
  · rw [ok.frm] at hf; cases hf; exact .inl rfl
  · exact .inr ⟨env, he, hf⟩
theorem Inv.frs_outer (I : Inv c g σ s) {b : Addr} (h : ∃ env ∈ c.outer, env.frame = some b) : g.z b = none ∧ g.K b ≠ none := by
  obtain ⟨env, he, hf⟩ := h
  obtain ⟨_, L', _, h2, h3, _⟩ := I.outer env he
  rw [hf] at h2; cases h2; exact h3

theorem Inv.slots (ok : CxOk c) (I : Inv c g σ s) {h' : Heap} (x : Heap.SlotsOnly (frs c) s.heap h') : Inv c g σ { s with heap := h' } where
  kept := fun a o e => by
    obtain ⟨o', h1, h2⟩ := I.kept a o e
    obtain ⟨sl, h3⟩ := x.2.2 a o' h1
    by_cases hm : a ∈ frs c
    · rcases frs_mem ok hm with rfl | ho
      · rw [I.KL] at e; cases e
      · exact ⟨_, h3, h2.trans (.inr ⟨ho, sl, rfl⟩)⟩
    · exact ⟨o', (x.2.1 a hm).trans h1, h2⟩
  zin := fun a o e => by
    refine (x.2.1 a fun hm => ?_).trans (I.zin a o e)
    rcases frs_mem ok hm with rfl | ho
    · rw [I.zK _ I.KL] at e; cases e
    · rw [(I.frs_outer ho).1] at e; cases e
  zK := I.zK
  base := I.base
  loc := let ⟨m, ⟨o, es, ep, ho, hd, r⟩, h2⟩ := I.loc; let ⟨sl, h3⟩ := x.2.2 _ o ho; ⟨m, ⟨_, es, ep, h3, hd, r⟩, h2⟩
  KL := I.KL
  cells := fun j C h1 h2 => by
    obtain ⟨a, q1, q2, q3, q4⟩ := I.cells j C h1 h2
    refine ⟨a, q1, q2, q3, q4.mono (fun _ _ e => e) (fun _ _ e => e) fun o e => (x.2.1 a fun hm => ?_).trans e⟩
    rcases frs_mem ok hm with h | ho
    · exact q3 h
    · exact (I.frs_outer ho).2 q2
  inj := I.inj
  adU := I.adU
  adN := I.adN
  outer := fun env he => by
    obtain ⟨h1, L', o, h2, h3, h4, h5⟩ := I.outer env he
    obtain ⟨sl, h6⟩ := x.2.2 _ o h4
    exact ⟨h1, L', _, h2, h3, h6, h5⟩
  gens := I.gens
  os := I.os
  adAt := fun j a e => let ⟨o, h⟩ := I.adAt j a e; let ⟨sl, h3⟩ := x.2.2 _ o h; ⟨_, h3⟩
  adK := I.adK

theorem FltAt.of {z : Addr → Option Obj} {o o' : Obj} {k : Str} {a r cc : Int} (x : FltAt z o k a r cc) (h1 : o'.cls = o.cls) (h2 : o'.dict = o.dict) {vs : Array Value} (h3 : o'.data = .fields vs) : FltAt z o' k a r cc :=
  let ⟨d, es, n, _, q1, _, q3, q4⟩ := x.ex
  ⟨h1.trans x.cls, d, es, n, vs, h2.trans q1, h3, q3, q4⟩

noncomputable def Hp0 : Heap := { (default : Heap) with objs := #[] }
theorem emptyHeap_get (b : Addr) : Hp0.get? b = none := by
  cases h : Hp0.get? b with
  | none => rfl
  | some o => exact absurd (Heap.lt_size h) (Nat.not_lt_zero _)

theorem Inv.funFrames (ok : CxOk c) (I : Inv c g σ s) : s.heap.FunFrames Hp0 (c.env :: c.outer) := by
  have key : ∀ l : List Env, (∀ env ∈ l, env ∈ c.outer) → s.heap.FunFrames Hp0 l := by
    intro l
    induction l with
    | nil => intro _; exact trivial
    | cons env r ih =>
      intro h
      obtain ⟨h1, L', o, h2, h3, h4, h5⟩ := I.outer env (h env (.head _))
      exact ⟨h1, ⟨L', o, h2, emptyHeap_get _, h4, h5⟩, ih fun e he => h e (.tail _ he)⟩
  obtain ⟨m, hm, _⟩ := I.loc
  exact .cons (L := c.L) (by rw [ok.kind]; decide) ok.frm hm (emptyHeap_get _) (key _ fun _ h => h)

variable {e : Addr} {φ : Phi} {Q : Unit → Shared → Prop} {E : Value → Shared → Prop}

theorem FlyP.slots {h h' : Heap} {S : List Addr} {v1 : Value} (F : FlyP c g h e φ v1) (x : Heap.SlotsOnly S h h') : FlyP c g h' e φ v1 := by
  obtain ⟨q1, q2, q3, o, vs, q4, q5, q6, q7⟩ := F
  obtain ⟨sl, h6⟩ := x.2.2 _ o q4
  exact ⟨q1, q2, q3, _, vs, h6, q5, q6.of rfl rfl q5, q7⟩

/-- the place of an exception in flight is stored -/
theorem fly_new (ok : CxOk c) (I : Inv c g σ s) {v1 head : Value} {had : Bool} (F : FlyP c g s.heap e φ v1) (hQ : ∀ s', Inv c g σ s' → FlyN c g s'.heap e φ (rawInt c.L) → Q () s') :
    wpAny c.M c.A (do setField (.ref e) 1 (← EntryCells.newEntry head (← frameOf c.env) .none (rawInt c.L) .none (← entryPlaceOf c.L had))) Q E s := by
  refine wpAny_bind (wpAny_frameOf_fun ok.fr (I.funFrames ok) ok.frm fun h₁ hs₁ => ?_)
  have I1 := I.slots ok hs₁
  obtain ⟨q1, q2, q3, o, vs, q4, q5, q6, q7⟩ := F.slots hs₁
  refine wpAny_bind (wpAny_entryPlaceOf fun pl hpl => ?_)
  unfold EntryCells.newEntry newFields
  refine wpAny_bind (wpAny_newObj_type ?_ (hpl.sizeOk5 _ _ _ _ _))
  have hsz : 1 < vs.size := (Array.getElem?_eq_some_iff.mp q7).1
  have he₂ := Heap.get?_push_of_some (h := h₁) { cls := .type "traceback", dict := none, data := .fields ([head, .ref c.L, .none, rawInt c.L, .none] ++ (if pl.isEmpty then List.replicate 6 Value.none else pl)).toArray } q4
  refine wpAny_setField he₂ q5 hsz ?_
  have hTe : h₁.objs.size ≠ e := Nat.ne_of_gt (Heap.lt_size q4)
  have hd₃ := Obj.data_mapFields q5 (·.setIfInBounds 1 (Value.ref h₁.objs.size))
  have he₃ := Heap.get?_update_self (Obj.mapFields (·.setIfInBounds 1 (Value.ref h₁.objs.size))) he₂ (Obj.isFreed_of_fields hd₃)
  have hT₃ := (Heap.get?_update_other (h₁.push { cls := .type "traceback", dict := none, data := .fields ([head, .ref c.L, .none, rawInt c.L, .none] ++ (if pl.isEmpty then List.replicate 6 Value.none else pl)).toArray })
    (Obj.mapFields (·.setIfInBounds 1 (Value.ref h₁.objs.size))) (Ne.symm hTe)).trans (Heap.get?_push_size h₁ rfl)
  have I2 := I1.upd (h' := (h₁.push { cls := .type "traceback", dict := none, data := .fields ([head, .ref c.L, .none, rawInt c.L, .none] ++ (if pl.isEmpty then List.replicate 6 Value.none else pl)).toArray }).update e (Obj.mapFields (·.setIfInBounds 1 (Value.ref h₁.objs.size)))) s.toks (fun b o hb hor => by
    rw [Heap.get?_update_other _ _ (show e ≠ b from by
      rintro rfl
      rcases hor with h | h | ⟨j, h⟩
      · exact h q1
      · exact q2 h
      · exact q3 j h)]
    exact Heap.get?_push_of_some _ hb)
  refine hQ _ I2 ⟨h₁.objs.size, ⟨q1, q2, q3, _, _, he₃, hd₃, q6.of (Obj.cls_mapFields _ _) (dict_mapFields _ _) hd₃, by simp [hsz]⟩, hTe, ?_, ?_, ?_, _, _, hT₃, rfl, ?_⟩
  · exact I1.freshK
  · exact Nat.ne_of_gt I1.ltL
  · intro k hk
    obtain ⟨o, ho⟩ := I1.adAt k _ hk
    exact absurd (Heap.lt_size ho) (Nat.lt_irrefl _)
  · rcases hpl with rfl | ⟨_, _, _, _, _, _, _, rfl⟩ <;> simp
end
end Mine
end

-- E19
section
open PySem PySem.W PyProof.Rows
set_option linter.unusedVariables false
set_option maxRecDepth 100000
namespace Mine

section
variable {c : Cx} {σ : AS} {g : Gh} {s : Shared} {e : Addr} {φ : Phi} {Q : Unit → Shared → Prop} {E : Value → Shared → Prop}

/-- a store into a traceback's entry -/
theorem fly_field3 (I : Inv c g σ s) {T : Addr} {v3 v3' : Value} {v1 : Value} (F : FlyP c g s.heap e φ v1) (B : TbAt c g s.heap e T v3)
    (hQ : ∀ s', Inv c g σ s' → FlyP c g s'.heap e φ v1 → TbAt c g s'.heap e T v3' → Q () s') : wpAny c.M c.A (setField (.ref T) 3 v3') Q E s := by
  obtain ⟨q1, q2, q3, o, vs, q4, q5, q6, q7⟩ := F
  obtain ⟨b1, b2, b3, b4, oT, ts, b5, b6, b7⟩ := B
  have hlt := (Array.getElem?_eq_some_iff.mp b7).1
  refine wpAny_setField b5 b6 hlt ?_
  have hd := Obj.data_mapFields b6 (·.setIfInBounds 3 v3')
  have hT := Heap.get?_update_self (Obj.mapFields (·.setIfInBounds 3 v3')) b5 (Obj.isFreed_of_fields hd)
  have I2 := I.upd (h' := s.heap.update T (Obj.mapFields (·.setIfInBounds 3 v3'))) s.toks (fun b o hb hor => by
    rw [Heap.get?_update_other _ _ (show T ≠ b from by
      rintro rfl
      rcases hor with h | h | ⟨j, h⟩
      · exact h b2
      · exact b3 h
      · exact b4 j h)]
    exact hb)
  refine hQ _ I2 ⟨q1, q2, q3, o, vs, ?_, q5, q6, q7⟩ ⟨b1, b2, b3, b4, _, _, hT, hd, by simp [hlt]⟩
  exact (Heap.get?_update_other _ _ b1).trans q4

/-- an exception's place is noted -/
theorem fly_note (ok : CxOk c) (I : Inv c g σ s) (F : FlyAt c g s.heap e φ) (hQ : ∀ s', Inv c g σ s' → FlyN c g s'.heap e φ (rawInt c.L) → Q () s') : wpAny c.M c.A (noteFrame (.ref e) c.env) Q E s := by
  unfold noteFrame
  simp only [ok.frm]
  rcases F with F | ⟨T, v3, F, B, hv⟩
  · obtain ⟨q1, q2, q3, o, vs, q4, q5, q6, q7⟩ := id F
    refine wpAny_bind (wpAny_field q4 q5 q7 ?_)
    rw [if_neg (by decide)]
    exact fly_new ok I F hQ
  · obtain ⟨q1, q2, q3, o, vs, q4, q5, q6, q7⟩ := id F
    obtain ⟨b1, b2, b3, b4, oT, ts, b5, b6, b7⟩ := id B
    refine wpAny_bind (wpAny_field q4 q5 q7 ?_)
    rw [if_pos (show (Value.ref T != Value.none) = true from by simp)]
    refine wpAny_bind (wpAny_field b5 b6 b7 ?_)
    rcases hv with rfl | rfl
    · rw [if_neg (show ¬ ((Value.none == rawInt c.L) = true) from by simp [rawInt])]
      exact wpAny_bind (fly_field3 I F B fun s' I' F' B' => fly_new ok I' F' hQ)
    · rw [if_pos (by simp)]
      exact wpAny_pure (hQ _ I ⟨T, F, B⟩)

theorem fly_flight (I : Inv c g σ s) {v3 : Value} (F : FlyN c g s.heap e φ v3) (fr : Option Addr) (hQ : ∀ s', Inv c g σ s' → FlyN c g s'.heap e φ (fr.elim .none fun f => rawInt f) → Q () s') :
    wpAny c.M c.A (setFlight (.ref e) fr) Q E s := by
  obtain ⟨T, F, B⟩ := F
  obtain ⟨q1, q2, q3, o, vs, q4, q5, q6, q7⟩ := id F
  unfold setFlight
  refine wpAny_bind (wpAny_field q4 q5 q7 ?_)
  rw [if_pos (show (Value.ref T != Value.none) = true from by simp)]
  exact fly_field3 I F B fun s' I' F' B' => hQ _ I' ⟨T, F', B'⟩

/-- the exception leaves the call -/
theorem fly_leaving (ok : CxOk c) (I : Inv c g σ s) (F : FlyAt c g s.heap e φ) (hQ : ∀ s', Inv c g σ s' → FlyN c g s'.heap e φ .none → Q () s') : wpAny c.M c.A (leaving c.env (.ref e)) Q E s := by
  unfold leaving
  exact wpAny_bind (fly_note ok I F fun s' I' F' => fly_flight I' F' none hQ)

theorem FlyN.at {v3 : Value} {h : Heap} (F : FlyN c g h e φ v3) (hv : v3 = .none ∨ v3 = rawInt c.L) : FlyAt c g h e φ := let ⟨T, a, b⟩ := F; .inr ⟨T, v3, a, b, hv⟩

/-- the exception leaves a loop -/
theorem Bad.loop (ok : CxOk c) {X : Phi → AS → Prop} {E' : Value → Shared → Prop} (h : Bad c g X E') : Bad c g X (notedBy c.M c.A c.env fun x s' => cameBackBy c.M c.A c.env E' x s') := by
  intro e φ σ' g' s' le I F hX
  refine fly_note ok I F fun s1 I1 F1 => ?_
  obtain ⟨T, F2, B2⟩ := F1
  obtain ⟨q1, q2, q3, o, vs, q4, q5, q6, q7⟩ := id F2
  unfold cameBackBy
  refine wpAny_bind (wpAny_field q4 q5 q7 ?_)
  rw [if_neg (by simp)]
  refine fly_flight I1 ⟨T, F2, B2⟩ _ fun s3 I3 F3 => ?_
  rw [ok.frm] at F3
  exact h e φ σ' g' s3 le I3 (F3.at (.inr rfl)) hX
end
end Mine
end

-- E20
section
open PySem PySem.W PyProof.Rows
set_option linter.unusedVariables false
set_option maxRecDepth 100000
namespace Mine

noncomputable def Gh.pin (g : Gh) (a : Addr) (o : Obj) : Gh := { g with K := fun b => if b = a then some o else g.K b }
noncomputable def Gh.unpin (g : Gh) (a : Addr) : Gh := { g with K := fun b => if b = a then none else g.K b }

section
variable {c : Cx} {σ : AS} {g : Gh} {s : Shared}

theorem notModule (ok : CxOk c) : (c.env.scope.kind == .class || (c.env.scope.kind == .module && c.env.locals != c.env.globals)) = false := by rw [ok.kind]; rfl

theorem ev_store (ok : CxOk c) {i : Nat} {x : Str} {v : Value} {a : AV} {Q : Unit → Shared → Prop} {E : Value → Shared → Prop} (I : Inv c g σ s) (hx : c.names[i]? = some x) (r : RV g v a)
    (h : ∀ s', Inv c g (σ.put i a) s' → (∀ b, b ≠ c.L → s'.heap.get? b = s.heap.get? b) → Q () s') : wpAny c.M c.A (storeName c.env x v) Q E s := by
  obtain ⟨m, hm, hv⟩ := I.loc
  obtain ⟨k1, k2⟩ := ok.isLoc x (List.mem_of_getElem? hx)
  refine wpAny_storeName_local k1 (ok.loc.symm ▸ hm) (fun h' hn hs => ?_) (notModule ok)
  rw [ok.loc] at hn hs
  exact h _ (I.store ok _ hx r hv hn hs) (fun b hb => hs.2 b hb)

theorem Inv.pin (I : Inv c g σ s) {a : Addr} {o : Obj} (hL : a ≠ c.L) (hC : ∀ k, g.ad k ≠ some a) (ho : s.heap.get? a = some o) : Inv c (g.pin a o) σ s where
  kept := fun b o' e => by
    have e' : (if b = a then some o else g.K b) = some o' := e
    by_cases h : b = a
    · rw [if_pos h] at e'; cases e'; subst h; exact ⟨_, ho, .inl rfl⟩
    · rw [if_neg h] at e'; exact I.kept b o' e'
  zin := I.zin
  zK := fun b e => by
    have e' : (if b = a then some o else g.K b) = none := e
    by_cases h : b = a
    · rw [if_pos h] at e'; cases e'
    · rw [if_neg h] at e'; exact I.zK b e'
  base := I.base
  loc := let ⟨m, h1, h2⟩ := I.loc; ⟨m, h1, fun i x y h3 h4 => let ⟨v, q1, q2⟩ := h2 i x y h3 h4; ⟨v, q1, q2.mono (g := g) (g' := g.pin a o) (fun _ _ e => e) (fun _ _ e => e)⟩⟩
  KL := by show (if c.L = a then some o else g.K c.L) = none; rw [if_neg (Ne.symm hL)]; exact I.KL
  cells := fun k C h1 h2 => by
    obtain ⟨b, q1, q2, q3, q4⟩ := I.cells k C h1 h2
    refine ⟨b, q1, ?_, q3, q4.mono (g := g) (g' := g.pin a o) (fun _ _ e => e) (fun _ _ e => e) fun _ e => e⟩
    show (if b = a then some o else g.K b) = none
    rw [if_neg (fun h => hC k (q1.trans (by rw [h])))]; exact q2
  inj := I.inj
  adU := I.adU
  adN := I.adN
  outer := fun env he => by
    obtain ⟨h1, L', o', h2, h3, h4, h5⟩ := I.outer env he
    refine ⟨h1, L', o', h2, ⟨h3.1, ?_⟩, h4, h5⟩
    show (if L' = a then some o else g.K L') ≠ none
    split
    · exact Option.some_ne_none _
    · exact h3.2
  gens := I.gens
  os := I.os
  adAt := I.adAt
  adK := fun j b e h => by
    have h' : (if b = a then some o else g.K b) ≠ none := h
    rw [if_neg (fun q => hC j (e.trans (by rw [q])))] at h'
    exact I.adK j b e h'

theorem RV.unpin {v : Value} {a : AV} {p : Addr} (r : RV g v a) : RV (g.unpin p) v a := r.mono (g := g) (g' := g.unpin p) (fun _ _ e => e) (fun _ _ e => e)

theorem Inv.unpin (I : Inv c g σ s) {a : Addr} {o : Obj} {vs : Array Value} (hz : g.z a = none) (ho : s.heap.get? a = some o) (hd : o.data = .fields vs) : Inv c (g.unpin a) σ s where
  kept := fun b o' e => by
    have e' : (if b = a then none else g.K b) = some o' := e
    by_cases h : b = a
    · rw [if_pos h] at e'; cases e'
    · rw [if_neg h] at e'; exact I.kept b o' e'
  zin := I.zin
  zK := fun b e => by
    have e' : (if b = a then none else g.K b) = none := e
    by_cases h : b = a
    · rw [h]; exact hz
    · rw [if_neg h] at e'; exact I.zK b e'
  base := I.base
  loc := let ⟨m, h1, h2⟩ := I.loc; ⟨m, h1, fun i x y h3 h4 => let ⟨v, q1, q2⟩ := h2 i x y h3 h4; ⟨v, q1, q2.mono (g := g) (g' := g.unpin a) (fun _ _ e => e) (fun _ _ e => e)⟩⟩
  KL := by
    show (if c.L = a then none else g.K c.L) = none
    split
    · rfl
    · exact I.KL
  cells := fun k C h1 h2 => by
    obtain ⟨b, q1, q2, q3, q4⟩ := I.cells k C h1 h2
    refine ⟨b, q1, ?_, q3, q4.mono (g := g) (g' := g.unpin a) (fun _ _ e => e) (fun _ _ e => e) fun _ e => e⟩
    show (if b = a then none else g.K b) = none
    split
    · rfl
    · exact q2
  inj := I.inj
  adU := I.adU
  adN := I.adN
  outer := fun env he => by
    obtain ⟨h1, L', o', h2, h3, h4, h5⟩ := I.outer env he
    refine ⟨h1, L', o', h2, ⟨h3.1, ?_⟩, h4, h5⟩
    show (if L' = a then none else g.K L') ≠ none
    rw [if_neg (fun h => by rw [h, ho] at h4; cases h4; exact h5 _ hd)]; exact h3.2
  gens := I.gens
  os := I.os
  adAt := I.adAt
  adK := fun j b e h => by
    have h' : (if b = a then none else g.K b) ≠ none := h
    refine I.adK j b e fun q => h' ?_
    split
    · rfl
    · exact q

/-- over a body run with the iterator pinned -/
theorem le_unpin {g0 g1 g2 : Gh} {a : Addr} {o : Obj} (l : g0.le g1) (h0 : g0.K a = none) (l2 : (g1.pin a o).le g2) : g0.le (g2.unpin a) where
  z := fun b o' e => l2.z b o' (l.z b o' e)
  K := fun b o' e => by
    have hb : b ≠ a := fun h => by rw [h, h0] at e; cases e
    show (if b = a then none else g2.K b) = some o'
    rw [if_neg hb]
    refine l2.K b o' ?_
    show (if b = a then some o else g1.K b) = some o'
    rw [if_neg hb]; exact l.K b o' e
  ad := fun k b e => l2.ad k b (l.ad k b e)
  new := fun b h1 h2 => by
    have hb : b ≠ a := fun h => h2 (by rw [h]; exact h0)
    refine l2.new b (l.new b h1 h2) ?_
    show (if b = a then some o else g1.K b) ≠ none
    rw [if_neg hb]
    cases hk : g0.K b with
    | none => exact absurd hk h2
    | some o' => rw [l.K b o' hk]; exact Option.some_ne_none _

theorem FlyAt.unpin {h : Heap} {e a : Addr} {φ : Phi} (F : FlyAt c g h e φ) : FlyAt c (g.unpin a) h e φ := by
  have key : ∀ b, g.K b = none → (g.unpin a).K b = none := fun b hb => by
    show (if b = a then none else g.K b) = none
    split
    · rfl
    · exact hb
  rcases F with ⟨q1, q2⟩ | ⟨T, v3, ⟨q1, q2⟩, ⟨b1, b2, b3⟩, hv⟩
  · exact .inl ⟨key _ q1, q2⟩
  · exact .inr ⟨T, v3, ⟨key _ q1, q2⟩, ⟨b1, key _ b2, b3⟩, hv⟩

noncomputable def RF (g : Gh) (f : Flow) (af : AF) : Prop := match f, af with
  | .next, .next => True
  | .brk, .brk => True
  | .ret v, .ret a => RV g v a
  | _, _ => False

noncomputable def SsOk (Φ : Spec1) (c : Cx) (cs : CSs) (ss : List Stmt) : Prop := ∀ σ P X, wpSs Φ cs σ P X → Ev RF c (execs ss c.env) σ P X
noncomputable def SOk (Φ : Spec1) (c : Cx) (cs : CS) (st : Stmt) : Prop := ∀ σ P X, wpS Φ cs σ P X → Ev RF c (exec st c.env) σ P X

/-- an iterator's turns -/
structure Turns (c : Cx) (I : Addr) (It : Nat → Obj → Prop) (xs : List AV) (g0 : Gh) : Prop where
  fld : ∀ i o, It i o → ∃ vs, o.data = .fields vs
  item : ∀ (i : Nat) (x : AV) (o : Obj) (g : Gh) (σ : AS) (s : Shared) (Q : Option Value → Shared → Prop) (E : Value → Shared → Prop), xs[i]? = some x → g0.le g → Inv c g σ s → s.heap.get? I = some o → It i o →
    (∀ (h' : Heap) (t : Nat) (v : Value) (o' : Obj), h'.get? I = some o' → It (i + 1) o' → Heap.SameBut I s.heap h' → RV g v x → Q (some v) { s with heap := h', toks := t }) → wpAny c.M c.A (pyNext (.ref I)) Q E s
  done : ∀ (o : Obj) (g : Gh) (σ : AS) (s : Shared) (Q : Option Value → Shared → Prop) (E : Value → Shared → Prop), g0.le g → Inv c g σ s → s.heap.get? I = some o → It xs.length o →
    (∀ h' : Heap, Heap.ExtBut I s.heap h' → Q none { s with heap := h' }) → wpAny c.M c.A (pyNext (.ref I)) Q E s

theorem ev_forLoop (ok : CxOk c) {Φ : Spec1} {I : Addr} {It : Nat → Obj → Prop} {xs : List AV} {b : CSs} {body : List Stmt} {i : Nat} {x : Str} {px : Pos} {P : AF → AS → Prop} {X : Phi → AS → Prop} {Q' : Flow → Shared → Prop} {E' : Value → Shared → Prop}
    (T : Turns c I It xs g) (hB : SsOk Φ c b body) (hx : c.names[i]? = some x) (J : Inv c g σ s) (hL : I ≠ c.L) (hK : g.K I = none) (hC : ∀ k, g.ad k ≠ some I)
    {o : Obj} (ho : s.heap.get? I = some o) (hIt : It 0 o) (hgo : forGo (fun σ P => wpSs Φ b σ P X) i P xs σ) (hok : Ok RF c g P Q') (hbad : Bad c g X E') :
    codeAny c.M c.A (.forLoop (.Name x px) (.ref I) body [] c.env) (fun r s' => match r with | .ok f => Q' f s' | .error e => cameBackBy c.M c.A c.env E' e s') s := by
  refine codeAny_forLoop (fun n s => ∃ (j : Nat) (g1 : Gh) (σ1 : AS) (o : Obj), n = xs.length + 1 - j ∧ j ≤ xs.length ∧ g.le g1 ∧ Inv c g1 σ1 s ∧ g1.K I = none ∧ (∀ k, g1.ad k ≠ some I) ∧ s.heap.get? I = some o ∧ It j o ∧
    forGo (fun σ P => wpSs Φ b σ P X) i P (xs.drop j) σ1) ?_ (xs.length + 1) ⟨0, g, σ, o, rfl, Nat.zero_le _, .refl g, J, hK, hC, ho, hIt, hgo⟩
  rintro n s ⟨j, g1, σ1, o, rfl, hj, le, J, hK1, hC1, ho, hIt, hgo⟩
  have rel : ∀ b', (g1.K b' ≠ none ∨ b' = c.L ∨ ∃ k, g1.ad k = some b') → (∀ k, g1.ad k ≠ some I) → b' ≠ I := by
    rintro b' (h | h | ⟨k, h⟩) hn rfl
    · exact h hK1
    · exact hL h
    · exact hn k h
  cases hxj : xs[j]? with
  | none =>
    have hlen : xs.length = j := by have := List.getElem?_eq_none_iff.mp hxj; lia
    refine T.done o g1 σ1 s _ _ le J ho (hlen ▸ hIt) fun h' hs => ?_
    rw [List.drop_of_length_le (by lia)] at hgo
    unfold forGo at hgo
    refine wpAny_execs_nil ?_
    refine hok .next .next σ1 g1 _ le ?_ trivial hgo
    refine J.upd s.toks fun b' o' e hr => hs b' o' (rel b' hr hC1) e
  | some xv =>
    have hjl : j < xs.length := (List.getElem?_eq_some_iff.mp hxj).1
    have hd : xs.drop j = xv :: xs.drop (j + 1) := by
      rw [List.drop_eq_getElem_cons hjl]
      rw [(List.getElem?_eq_some_iff.mp hxj).2]
    rw [hd] at hgo
    unfold forGo at hgo
    refine T.item j xv o g1 σ1 s _ _ hxj le J ho hIt fun h' t v o' ho' hIt' hs rv => ?_
    have J1 : Inv c g1 σ1 { s with heap := h', toks := t } := J.upd t fun b' o'' e hr => (hs.2 b' (rel b' hr hC1)).trans e
    refine assign_Name (ev_store ok J1 hx rv fun s2 J2 hs2 => ?_)
    have ho2 : s2.heap.get? I = some o' := (hs2 I hL).trans ho'
    have J3 := J2.pin hL hC1 ho2
    have hz1 : g1.z I = none := J.zK I hK1
    refine hB (σ1.put i xv) _ X hgo (g1.pin I o') s2 _ _ J3 (fun f af σ4 g4 s4 le4 J4 rf hq => ?_) ?_
    · have hz4 : g4.z I = none := le4.new I hz1 (by show (if I = I then some o' else g1.K I) ≠ none; rw [if_pos rfl]; exact Option.some_ne_none _)
      have hK4 : g4.K I = some o' := le4.K I o' (by show (if I = I then some o' else g1.K I) = some o'; rw [if_pos rfl])
      obtain ⟨vs, hvs⟩ := T.fld _ _ hIt'
      obtain ⟨o4, ho4, hkp⟩ := J4.kept I o' hK4
      have e4 : o4 = o' := by
        rcases hkp with h | ⟨⟨env, he, hf⟩, _⟩
        · exact h
        · obtain ⟨_, L', oL, h2, _, h4, h5⟩ := J3.outer env he
          rw [hf] at h2; cases h2
          rw [ho2] at h4; cases h4
          exact absurd hvs (h5 _)
      subst e4
      have J5 := J4.unpin hz4 ho4 hvs
      have le5 : g.le (g4.unpin I) := le_unpin le hK le4
      cases f with
      | next =>
        cases af with
        | next =>
          refine ⟨xs.length + 1 - (j + 1), by lia, j + 1, g4.unpin I, σ4, o4, rfl, by lia, le5, J5, by show (if I = I then none else g4.K I) = none; rw [if_pos rfl], ?_, ho4, hIt', hq⟩
          intro k h3
          exact J4.adK k I h3 (by rw [hK4]; exact Option.some_ne_none _) hz4
        | _ => cases rf
      | brk =>
        cases af with
        | brk => exact hok .next .next σ4 _ s4 le5 J5 trivial hq
        | _ => cases rf
      | ret v =>
        cases af with
        | ret a => exact hok (.ret v) (.ret a) σ4 _ s4 le5 J5 (RV.unpin (p := I) rf) hq
        | _ => cases rf
      | cont => cases af <;> cases rf
    · have hb := (Bad.loop ok hbad)
      intro e φ σ4 g4 s4 le4 J4 F hX
      have hz4 : g4.z I = none := le4.new I hz1 (by show (if I = I then some o' else g1.K I) ≠ none; rw [if_pos rfl]; exact Option.some_ne_none _)
      have hK4 : g4.K I = some o' := le4.K I o' (by show (if I = I then some o' else g1.K I) = some o'; rw [if_pos rfl])
      obtain ⟨vs, hvs⟩ := T.fld _ _ hIt'
      obtain ⟨o4, ho4, hkp⟩ := J4.kept I o' hK4
      have e4 : o4 = o' := by
        rcases hkp with h | ⟨⟨env, he, hf⟩, _⟩
        · exact h
        · obtain ⟨_, L', oL, h2, _, h4, h5⟩ := J3.outer env he
          rw [hf] at h2; cases h2
          rw [ho2] at h4; cases h4
          exact absurd hvs (h5 _)
      subst e4
      exact hb e φ σ4 (g4.unpin I) s4 (le_unpin le hK le4) (J4.unpin hz4 ho4 hvs) F.unpin hX
end
end Mine
end

-- E21
section
open PySem PySem.W PyProof.Rows
set_option linter.unusedVariables false
set_option maxRecDepth 100000
namespace Mine

theorem seq_list_iadd : seqSlot? (.type "list") (dunderI "add") = pure (some (.builtin "list.__iadd__")) := PySem.seqSlot_of F.slot_list_iadd.lookup (by decide +kernel)

section
variable {prog : Program} {w : World} {A : Around} {E : Value → Shared → Prop} {s : Shared}

theorem iadd_list {l b : Addr} {items items2 : Array Value} {n n2 : Nat} {Q : Value → Shared → Prop} (hl : IsL s.heap l items n) (hb : IsL s.heap b items2 n2) (hsz : items.size + items2.size ≤ 200000)
    (h : Q (.ref l) { s with heap := s.heap.update l (Obj.mapSeq fun x => x ++ items2) }) : wpAny (model prog w) A (inplaceOp .Add (.ref l) (.ref b)) Q E s := by
  have ha : s.TypeIs (.ref l) "list" := ⟨_, hl, rfl⟩
  have hb' : s.TypeIs (.ref b) "list" := ⟨_, hb, rfl⟩
  unfold inplaceOp
  refine wpAny_holding ?_
  have hfi : fillsInplaceSlot (.type "list") "add" (Operator.Add == .Add) = pure false := by
    unfold fillsInplaceSlot
    show (typeLookup (.type "list") (dunderI "add") >>= fun fi => pure (fi.isSome && !isSeqSlot fi)) = pure false
    rw [F.slot_list_iadd.lookup]
    show (pure (true && !isSeqSlot (some (.builtin "list.__iadd__"))) : Sem Bool) = _
    rw [show isSeqSlot (some (.builtin "list.__iadd__")) = true from by decide +kernel]; rfl
  refine wpAny_bind (wpAny_typeOf ha (wpAny_bind (wpAny_of_eq hfi ?_)))
  show wpAny _ A (if false = true then _ else _) Q E s
  rw [if_neg Bool.false_ne_true]
  refine wpAny_bind (wpAny_binaryOp1_none (nm := "add") ha hb' noFill_list_add ?_)
  refine wpAny_bind (wpAny_of_eq seq_list_iadd ?_)
  refine wpAny_bind (wpAny_rule ?_)
  exact call_meets F.slot_list_iadd ha F.entry_list_iadd (F.args_list_iadd_2 _ _)
    (AutoSeq1.list___iadd___list_list_0 l items n b items2 n2 (by simp [Builtin.List.listTooLong, sizeLine]; lia) (by rw [sizeLine_val]; lia) (by rw [sizeLine_val]; lia)) ⟨hl, hb, h⟩

theorem setItem_list' {l : Addr} {items : Array Value} {n : Nat} {k : Int} {t : Tok} {v : Value} {Q : Unit → Shared → Prop} (hl : IsL s.heap l items n) (h0 : 0 ≤ k) (hfit : k < 2 ^ 63) (hn : k < items.size)
    (hQ : Q () { s with heap := s.heap.update l (Obj.mapSeq (·.setIfInBounds k.toNat v)) }) : wpAny (model prog w) A (setItem (.ref l) (.int k t) v) Q E s := by
  have hT : s.TypeIs (.ref l) "list" := ⟨_, hl, rfl⟩
  unfold setItem
  try with_reducible refine wpAny_holding ?_
  first | refine wpAny_bind (wpAny_pure ?_) | skip
  refine wpAny_bind (wpAny_sequenceKey hT (by decide) ?_)
  refine wpAny_bind (wpAny_callSpecial?_slot (name := Str.ofString "__setitem__") hT slot_list_setitem
    (wpAny_call_entry slot_list_setitem hT entry_list_setitem ?_ (args_list_setitem _ _ _)))
  show wpAny _ _ (Builtin.List.listSubscript? (.int k t) >>= _) _ _ s
  refine wpAny_bind (wpAny_listSubscript_int (fitsIndex_of h0 hfit) ?_)
  clear hfit
  obtain ⟨j, rfl⟩ := Int.eq_ofNat_of_zero_le h0
  have hj : j < items.size := by lia
  have hx' : items[j]? = some items[j] := Array.getElem?_eq_getElem hj
  show wpAny _ _ ((seqItemAt l j >>= fun r => pure (r.map (j, ·))) >>= _) _ _ s
  refine wpAny_bind (wpAny_bind (wpAny_seqItemAt hl rfl (wpAny_pure ?_)))
  rw [hx']
  show wpAny _ _ (setSeqItemAt l j v >>= _) _ _ s
  refine wpAny_bind (wpAny_setSeqItemAt hl rfl ?_)
  first
    | exact wpAny_bind (wpAny_pure (wpAny_pure ⟨.none, rfl, wpAny_pure hQ⟩))
    | exact wpAny_pure ⟨.none, rfl, wpAny_pure hQ⟩
theorem setItem_list {l : Addr} {items : Array Value} {n : Nat} {k : Nat} {t : Tok} {v : Value} {Q : Unit → Shared → Prop} (hl : IsL s.heap l items n) (hfit : k ≤ 1000) (hn : k < items.size)
    (hQ : Q () { s with heap := s.heap.update l (Obj.mapSeq (·.setIfInBounds k v)) }) : wpAny (model prog w) A (setItem (.ref l) (.int (k : Int) t) v) Q E s :=
  setItem_list' hl (by lia) (by lia) (by lia) hQ
end

section
variable {c : Cx} {σ : AS} {g : Gh} {s : Shared}

theorem turns_range (hh : c.A.handled = none) (I : Addr) (n : Nat) (g0 : Gh) : Turns c I (fun i o => o = { cls := .type "range_iterator", dict := none, data := .fields #[rawInt (i : Int), rawInt ((n : Int) - i), rawInt 1], slots := #[] })
    ((List.range n).map fun k : Nat => AV.int (k : Int)) g0 where
  fld := fun i o h => by subst h; exact ⟨_, rfl⟩
  item := fun i x o g σ s Q E hx le J ho hIt hQ => by
    subst hIt
    have hi : i < n := by have := (List.getElem?_eq_some_iff.mp hx).1; simpa using this
    have hxv : x = .int (i : Int) := by
      have := List.getElem?_eq_some_iff.mp hx
      obtain ⟨h1, h2⟩ := this
      simp at h2; exact h2.symm
    subst hxv
    refine wpAny_pyNext_range_item (x := (i : Int)) (left := (n : Int) - i) (step := 1) ho (by lia) fun h' hit' hs' => ?_
    refine hQ h' _ _ _ hit' ?_ hs' (.int _ _)
    have e1 : ((i + 1 : Nat) : Int) = (i : Int) + 1 := by lia
    have e2 : (n : Int) - ((i : Int) + 1) = (n : Int) - i - 1 := by lia
    rw [e1, e2]
  done := fun o g σ s Q E le J ho hIt hQ => by
    subst hIt
    exact wpAny_pyNext_range_end hh ho (by simp) fun h' hs => hQ h' hs

theorem turns_list (hh : c.A.handled = none) (I l : Addr) {vs : List Value} {n : Nat} {xs : List AV} {g0 : Gh} (hz : g0.z l = some { cls := .type "list", data := .seq vs.toArray n }) (r : RVs g0 vs xs) :
    Turns c I (fun i o => o.cls = .type "list_iterator" ∧ o.data = .fields #[.ref l, .int i 0]) xs g0 where
  fld := fun i o h => ⟨_, h.2⟩
  item := fun i x o g σ s Q E hx le J ho hIt hQ => by
    obtain ⟨v, hv, rv⟩ := r.get hx
    have hl : IsL s.heap l vs.toArray n := J.zin _ _ (le.z _ _ hz)
    refine wpAny_pyNext_list_item (l := l) (i := i) (x := v) ⟨o, ho, hIt.1, hIt.2⟩ hl.isList (by simpa using hv) fun h' hit' hs' => ?_
    obtain ⟨o', ho', h1, h2⟩ := hit'
    exact hQ h' s.toks v o' ho' ⟨h1, h2⟩ hs' (rv.le le)
  done := fun o g σ s Q E le J ho hIt hQ => by
    have hl : IsL s.heap l vs.toArray n := J.zin _ _ (le.z _ _ hz)
    refine wpAny_pyNext_list_end hh (l := l) ⟨o, ho, hIt.1, hIt.2⟩ hl.isList ?_ fun h' hs => hQ h' hs
    have := r.length
    simp; lia

theorem Inv.fresh_ad (I : Inv c g σ s) : ∀ k, g.ad k ≠ some s.heap.objs.size := fun k hk => by
  obtain ⟨o, ho⟩ := I.adAt k _ hk
  exact absurd (Heap.lt_size ho) (Nat.lt_irrefl _)

/-- the content of a list cell turns -/
theorem Inv.listTo (I : Inv c g σ s) {k : Nat} {a : Addr} {xs ys : List AV} {vs ws : List Value} {n : Nat} {f : Array Value → Array Value} (hC : σ.cells[k]? = some (.lst xs)) (ha : g.ad k = some a) (hl : IsL s.heap a (List.toArray vs) n)
    (hf : f (List.toArray vs) = List.toArray ws) (r : RVs g ws ys) : Inv c g (σ.setC k (.lst ys)) { s with heap := s.heap.update a (Obj.mapSeq f) } := by
  refine I.setCell s.toks hC rfl ha (Heap.SameBut.update ..) rfl ⟨ws, if ws.toArray.size == vs.toArray.size then n else n + 1, ?_, r⟩
  rw [← hf]
  exact Heap.get?_update_self (Obj.mapSeq f) hl rfl
theorem Inv.cellList (I : Inv c g σ s) {v : Value} {k : Nat} {xs : List AV} (r : RV g v (.ref k)) (hC : σ.cells[k]? = some (.lst xs)) : ∃ a vs n, v = .ref a ∧ g.ad k = some a ∧ IsL s.heap a (List.toArray vs) n ∧ RVs g vs xs := by
  cases r with
  | @ref a _ hk =>
    obtain ⟨b', q1, _, _, vs, n, q4, q5⟩ := I.cells k _ hC rfl
    rw [hk] at q1; cases q1
    exact ⟨a, vs, n, rfl, hk, q4, q5⟩
end
end Mine
end

-- E22
section
open PySem PySem.W PyProof.Rows
set_option linter.unusedVariables false
set_option maxRecDepth 100000
namespace Mine

theorem wpE_A {Φ : Spec1} (ce : CE) (hs : ce.atom = true) {σ : AS} {Q Q' : AV → AS → Prop} {X X' : Phi → AS → Prop} (h : wpE Φ ce σ Q X) (k : ∀ a σ, Q a σ → Q' a σ) : wpE Φ ce σ Q' X' := by
  cases ce with
  | var i =>
    exact optP_el h fun a ha h => by
      show optP (σ.get i) fun a => Q' a σ
      rw [ha]; exact k _ _ h
  | attr i f =>
    exact attrP_el h (fun fs v ha hC hv h => by
      show attrP f (σ.get i) σ.cells[1]? fun v => Q' v σ
      rw [ha, hC]
      show optP (fs.lookup f) _
      rw [hv]; exact k _ _ h) (fun kd a r c ha h => by
      show attrP f (σ.get i) σ.cells[1]? fun v => Q' v σ
      rw [ha]
      cases f <;> first | exact k _ _ h | exact False.elim h)
  | int _ => exact k _ _ h
  | str _ => exact k _ _ h
  | non => exact k _ _ h
  | bool _ => exact k _ _ h
  | _ => exact Bool.noConfusion hs
theorem wpEs_A {Φ : Spec1} : (ces : CEs) → ces.atoms = true → ∀ {σ : AS} {Q Q' : List AV → AS → Prop} {X X' : Phi → AS → Prop}, wpEs Φ ces σ Q X → (∀ a σ, Q a σ → Q' a σ) → wpEs Φ ces σ Q' X'
  | .nil, _, _, _, _, _, _, h, k => k _ _ h
  | .cons e es, hs, _, _, _, _, _, h, k => wpE_A e (Bool.and_eq_true_iff.mp hs).1 h fun _ _ h2 => wpEs_A es (Bool.and_eq_true_iff.mp hs).2 h2 fun _ _ q => k _ _ q
theorem wpE_2 {Φ : Spec1} (ce : CE) (hs : ce.atom2 = true) {σ : AS} {Q Q' : AV → AS → Prop} {X X' : Phi → AS → Prop} (h : wpE Φ ce σ Q X) (k : ∀ a σ, Q a σ → Q' a σ) : wpE Φ ce σ Q' X' := by
  cases ce with
  | tup es => exact wpEs_A es hs h fun xs σ q => ⟨q.1, k _ _ q.2⟩
  | _ => refine wpE_A _ ?_ h k; exact hs
theorem wpEs_2 {Φ : Spec1} : (ces : CEs) → ces.atoms2 = true → ∀ {σ : AS} {Q Q' : List AV → AS → Prop} {X X' : Phi → AS → Prop}, wpEs Φ ces σ Q X → (∀ a σ, Q a σ → Q' a σ) → wpEs Φ ces σ Q' X'
  | .nil, _, _, _, _, _, _, h, k => k _ _ h
  | .cons e es, hs, _, _, _, _, _, h, k => wpE_2 e (Bool.and_eq_true_iff.mp hs).1 h fun _ _ h2 => wpEs_2 es (Bool.and_eq_true_iff.mp hs).2 h2 fun _ _ q => k _ _ q
theorem wpE_S {Φ : Spec1} (ce : CE) (hs : ce.simple = true) {σ : AS} {Q Q' : AV → AS → Prop} {X X' : Phi → AS → Prop} (h : wpE Φ ce σ Q X) (k : ∀ a σ, Q a σ → Q' a σ) : wpE Φ ce σ Q' X' := by
  cases ce with
  | tup es => exact wpEs_2 es hs h fun xs σ q => ⟨q.1, k _ _ q.2⟩
  | _ => refine wpE_A _ ?_ h k; exact hs

section
variable {c : Cx} {σ : AS} {g : Gh} {s : Shared}

theorem looks_head {M : Model} {h : Heap} {a : Addr} {o : Obj} (e : h.get? a = some o) : Looks M h (loadHead a) o := fun _ _ _ _ k q => wpAny_loadPart (k _ _ e) q
theorem looks_isType {M : Model} {h : Heap} {a : Addr} {o : Obj} {vs : Array Value} (e : h.get? a = some o) (hd : o.data = .fields vs) : Looks M h (isType (.ref a)) false := by
  unfold isType
  refine (looks_head e).andThen ?_
  rw [hd]; exact .now
theorem looks_isTypeC {M : Model} {h : Heap} {a : Addr} {o : Obj} {cd : ClassData} (e : h.get? a = some o) (hd : o.data = .cls cd) : Looks M h (isType (.ref a)) true := by
  unfold isType
  refine (looks_head e).andThen ?_
  rw [hd]; exact .now

theorem flt_typeT (P : Params) : typeIn (KF P) (.ref fltC) = some (.type "type") := by kernel_rfl
theorem flt_sub (P : Params) : subIn (KF P) (.ref fltC) (.ref fltC) = some true := by kernel_rfl
theorem flt_isCls (P : Params) : (clsIn (KF P) fltC).isSome = true := by kernel_rfl
theorem flt_notTup (P : Params) : instIn (KF P) (.ref fltC) (.type "tuple") = some false := by kernel_rfl
theorem Inv.fltCls (I : Inv c g σ s) : ∃ o cd, s.heap.get? fltC = some o ∧ o.data = .cls cd := by
  have h := flt_isCls c.W.w.params
  unfold clsIn at h
  split at h
  · rename_i ho; exact ⟨_, _, I.KIn _ _ ho, rfl⟩
  · cases h

/-- raise, of a new exception of the text's class -/
theorem ev_raiseStmt (hh : c.A.handled = none) {x : Sem Value} {Q : Flow → Shared → Prop} {E' : Value → Shared → Prop}
    (h : wpAny c.M c.A x (fun v s1 => ∃ e φ σ' g', Inv c g' σ' s1 ∧ v = .ref e ∧ FlyP c g' s1.heap e φ .none ∧ E' (.ref e) s1) E' s) : wpAny c.M c.A (raiseStmt c.env (some x) none) Q E' s := by
  unfold raiseStmt
  refine wpAny_bind (wpAny_mono h (fun v s1 h1 => ?_) fun _ _ x => x)
  obtain ⟨e, φ, σ', g', I, rfl, ⟨q1, q2, q3, o, vs, q4, q5, q6, q7⟩, hE⟩ := h1
  have KI := I.KIn
  obtain ⟨hp, gg, dd, tt, oo⟩ := s1
  dsimp only at KI q4
  have LT : Looks c.M hp (typeOf (.ref e)) (.ref fltC) := q6.cls ▸ (Looks.ld q4).andThen .now
  have LI : Looks c.M hp (isInstance (.ref e) (.type "BaseException")) true := LT.andThen (looks_subIn KI (flt_isExc _))
  have LH : Looks c.M hp (isType (.ref e)) false := looks_isType q4 q5
  have LX : Looks c.M hp (excFromValue (.ref e) "exceptions must derive from BaseException") (.ref e) := by
    unfold excFromValue
    refine Looks.andThen (a := false) (LH.andThen .now) ?_
    rw [if_neg (by decide)]
    refine LI.andThen ?_
    rw [if_pos rfl]; exact .now
  have LR : Looks c.M hp (raisedInstance (.ref e)) (.ref e) := by
    unfold raisedInstance
    refine LT.andThen ((looks_typeIn KI (flt_typeT _)).andThen ?_)
    rw [if_pos (by simp)]; exact .now
  refine wpAny_bind (wpAny_pure ?_)
  refine wpAny_bind (wpAny_holding (LX.at ?_))
  refine wpAny_bind (m := isType (.ref e)) (LH.at ?_)
  rw [if_neg (by decide)]
  refine wpAny_bind (LR.at ?_)
  refine wpAny_bind ?_
  unfold setFlight
  refine wpAny_bind (wpAny_field q4 q5 q7 ?_)
  rw [if_neg (by decide)]
  exact wpAny_pure (wpAny_raiseNew_none hh hE)

/-- except SyntaxFault: it matches -/
theorem ev_matches (I : Inv c g σ s) {A : Around} {e : Addr} {φ : Phi} {v1 : Value} {Q : Bool → Shared → Prop} {E' : Value → Shared → Prop} (F : FlyP c g s.heap e φ v1) (hq : Q true s) : wpAny c.M A (excMatches (.ref e) (.ref fltC)) Q E' s := by
  obtain ⟨q1, q2, q3, o, vs, q4, q5, q6, q7⟩ := F
  obtain ⟨oC, cd, hC, hCd⟩ := I.fltCls
  have KI := I.KIn
  obtain ⟨hp, gg, dd, tt, oo⟩ := s
  dsimp only at KI q4 hC
  have LT : Looks c.M hp (typeOf (.ref e)) (.ref fltC) := q6.cls ▸ (Looks.ld q4).andThen .now
  have LN : Looks c.M hp (isInstance (.ref fltC) (.type "tuple")) false := looks_instIn KI (flt_notTup _)
  have LE : Looks c.M hp (isExcClass (.ref fltC)) true := by
    unfold isExcClass
    refine (looks_isTypeC hC hCd).andThen ?_
    rw [if_pos rfl]; exact looks_subIn KI (flt_isExc _)
  have LS : Looks c.M hp (isSubtype (.ref fltC) (.ref fltC)) true := looks_subIn KI (flt_sub _)
  unfold excMatches
  refine wpAny_bind (LN.at ?_)
  rw [if_neg (by decide)]
  refine wpAny_bind (wpAny_pure ?_)
  refine wpAny_bind ?_
  rw [List.forIn_cons]
  refine wpAny_bind (wpAny_bind (LE.at ?_))
  rw [if_neg (by decide)]
  refine wpAny_pure ?_
  dsimp only
  rw [List.forIn_nil]
  refine wpAny_pure ?_
  refine wpAny_bind (LT.at ?_)
  refine wpAny_bind ?_
  rw [List.forIn_cons]
  refine wpAny_bind (wpAny_bind (LS.at ?_))
  rw [if_pos rfl]
  exact wpAny_pure (wpAny_pure (wpAny_pure hq))
end
end Mine
end

-- E23
section
open PySem PySem.W PyProof.Rows
set_option linter.unusedVariables false
set_option maxRecDepth 100000
namespace Mine

theorem find?_eraseIdx {α : Type} {p : α → Bool} : ∀ {l : List α} {i : Nat}, (∀ e, l[i]? = some e → p e = false) → (l.eraseIdx i).find? p = l.find? p
  | [], _, _ => rfl
  | x :: l, 0, h => by
    have := h x rfl
    rw [List.eraseIdx_cons_zero, List.find?_cons, this]
  | x :: l, i + 1, h => by
    rw [List.eraseIdx_cons_succ, List.find?_cons, List.find?_cons, find?_eraseIdx (l := l) (i := i) fun e he => h e (by simpa using he)]

theorem nsFind_erase {es : Array DictEntry} {name y : Str} {i : Nat} (hi : es.findIdx? (·.key.isStr name) = some i) (hy : y ≠ name) : nsFind (es.eraseIdxIfInBounds i) y = nsFind es y := by
  unfold nsFind findBy
  rw [← Array.find?_toList, ← Array.find?_toList]
  have e1 : (es.eraseIdxIfInBounds i).toList = es.toList.eraseIdx i := by simp
  rw [e1, find?_eraseIdx]
  intro e he
  have hlt := (List.getElem?_eq_some_iff.mp he).1
  have := Array.findIdx?_eq_some_iff_getElem.mp hi
  obtain ⟨h1, h2, _⟩ := this
  have e2 : es[i] = e := by
    have := (List.getElem?_eq_some_iff.mp he).2
    simpa using this
  rw [e2] at h2
  cases hk : e.key with
  | str n t =>
    rw [hk] at h2
    have h2' : (n == name) = true := h2
    show (n == y) = false
    rw [beq_iff_eq] at h2'
    rw [h2', beq_eq_false_iff_ne]; exact fun h => hy h.symm
  | _ => rw [hk] at h2; cases h2

section
variable {M : Model} {A : Around} {E : Value → Shared → Prop} {s : Shared} {env : Env}

theorem nsDel_keep {a : Addr} {m : Str → Option Value} {name : Str} {Q : Bool → Shared → Prop} (hn : s.heap.Ns a m) (hsome : (m name).isSome = true)
    (hQ : ∀ h' m', h'.Ns a m' → (∀ y, y ≠ name → m' y = m y) → Heap.SameBut a s.heap h' → Q true { s with heap := h' }) : wpAny M A (nsDel a name) Q E s := by
  obtain ⟨o, es, ep, ho, hd, hk, hm⟩ := id hn
  have hany : es.any (·.refKey) = false := by
    rw [Array.any_eq_false']; intro e he; obtain ⟨n, t, h⟩ := hk e he; simp [DictEntry.refKey, h]
  have hs : (m name).isSome = es.any (·.key.isStr name) := by
    rw [← hm name]; simp only [nsFind, findBy, Option.isSome_map]
    rw [Bool.eq_iff_iff]; simp only [Array.find?_isSome, Array.any_eq_true]
    constructor
    · rintro ⟨x, hx, hp⟩; obtain ⟨i, hi, rfl⟩ := Array.mem_iff_getElem.mp hx; exact ⟨i, hi, hp⟩
    · rintro ⟨i, hi, hp⟩; exact ⟨_, Array.getElem_mem hi, hp⟩
  have hhas : nsHas name o = pure (es.any (·.key.isStr name)) := by
    rw [nsHas_eq]; unfold nsHasByArray; rw [hd]
    show (if (es.any fun x => x.key.isStr name) = true then _ else _) = _
    generalize (es.any fun x => x.key.isStr name) = b
    cases b <;> simp [hany]
  unfold nsDel
  refine wpAny_bind (wpAny_loadPart ho ?_)
  rw [hhas]
  refine wpAny_bind (wpAny_pure ?_)
  rw [← hs, hsome]
  refine wpAny_bind (wpAny_updatePart ho (wpAny_pure ?_))
  have key : ∃ m', (s.heap.update a (Obj.dropName name)).Ns a m' ∧ ∀ y, y ≠ name → m' y = m y := by
    obtain ⟨cl, d, dt, sl⟩ := o
    subst hd
    cases hi : es.findIdx? (·.key.isStr name) with
    | some i => exact ⟨_, ⟨_, _, ep + 1, Heap.get?_update_self _ ho (by simp only [Obj.dropName_eq, Obj.dropNameByArray, hi] <;> rfl), (by simp only [Obj.dropName_eq, Obj.dropNameByArray, hi] <;> rfl), hk.erase i, fun _ => rfl⟩, fun y hy => (nsFind_erase hi hy).trans (hm y)⟩
    | none => exact ⟨_, ⟨_, _, ep, Heap.get?_update_self _ ho (by simp only [Obj.dropName_eq, Obj.dropNameByArray, hi] <;> rfl), (by simp only [Obj.dropName_eq, Obj.dropNameByArray, hi] <;> rfl), hk, fun _ => rfl⟩, fun y hy => hm y⟩
  obtain ⟨m', hm', hk'⟩ := key
  exact hQ _ m' hm' hk' (Heap.SameBut.update ..)
end

section
variable {c : Cx} {σ : AS} {g : Gh} {s : Shared}

theorem Inv.dropV (I : Inv c g σ s) (ok : CxOk c) {m m' : Str → Option Value} {h' : Heap} {i : Nat} {x : Str} (t : Nat) (hx : c.names[i]? = some x)
    (hm : ∀ (i : Nat) (x : Str) (a : AV), c.names[i]? = some x → σ.vars[i]? = some (some a) → ∃ v, m x = some v ∧ RV g v a)
    (hn : h'.Ns c.L m') (hk : ∀ y, y ≠ x → m' y = m y) (hs : Heap.SameBut c.L s.heap h') : Inv c g (σ.del i) { s with heap := h', toks := t } := by
  have ne : ∀ b, g.K b ≠ none → b ≠ c.L := fun b hb q => hb (q ▸ I.KL)
  refine ⟨fun b o e => ?_, fun b o e => ?_, I.zK, I.base, ⟨_, hn, ?_⟩, I.KL, ?_, I.inj, I.adU, I.adN, ?_, I.gens, I.os, fun j a e => ?_, I.adK⟩
  · obtain ⟨o', h1, h2⟩ := I.kept b o e
    exact ⟨o', (hs.2 b (ne b (by rw [e]; exact Option.some_ne_none _))).trans h1, h2⟩
  · refine (hs.2 b (fun q => ?_)).trans (I.zin b o e)
    rw [q, I.zK _ I.KL] at e; cases e
  · intro j y b h1 h2
    by_cases hj : j = i
    · subst hj
      have hlt : j < σ.vars.length := by have := (List.getElem?_eq_some_iff.mp h2).1; simpa [AS.del] using this
      simp only [AS.del, List.getElem?_set_self hlt] at h2
      cases h2
    · have h2' : σ.vars[j]? = some (some b) := by simpa [AS.del, List.getElem?_set_ne (Ne.symm hj)] using h2
      obtain ⟨w, q1, q2⟩ := hm j y b h1 h2'
      refine ⟨w, ?_, q2⟩
      rw [hk]
      · exact q1
      · rintro rfl
        exact hj ((List.getElem?_inj (List.getElem?_eq_some_iff.mp h1).1 ok.nodup).mp (h1.trans hx.symm))
  · intro k C h1 h2
    obtain ⟨b, q1, q2, q3, q4⟩ := I.cells k C h1 h2
    exact ⟨b, q1, q2, q3, q4.mono (fun _ _ e => e) (fun _ _ e => e) fun o e => (hs.2 b q3).trans e⟩
  · intro env he
    obtain ⟨h1, L', o', h2, h3, h4, h5⟩ := I.outer env he
    have hL : L' ≠ c.L := ne L' h3.2
    exact ⟨h1, L', o', h2, h3, (hs.2 L' hL).trans h4, h5⟩
  · by_cases h : a = c.L
    · obtain ⟨oL, es, ep, ho, _⟩ := hn; exact ⟨oL, h ▸ ho⟩
    · obtain ⟨o, ho⟩ := I.adAt j a e; exact ⟨o, (hs.2 a h).trans ho⟩

/-- the name of an except clause goes -/
theorem ev_nameGoes (ok : CxOk c) {i : Nat} {x : Str} {pos : Pos} {Q : Unit → Shared → Prop} {E : Value → Shared → Prop} (I : Inv c g σ s) (hx : c.names[i]? = some x)
    (h : ∀ s', Inv c g (σ.del i) s' → Q () s') : wpAny c.M c.A (do bindName c.env x .none; unbindBehindTheSuite c.env x pos) Q E s := by
  obtain ⟨m, hm, hv⟩ := I.loc
  obtain ⟨k1, k2⟩ := ok.isLoc x (List.mem_of_getElem? hx)
  refine wpAny_bind (wpAny_bindName (wpAny_storeName_local k1 (ok.loc.symm ▸ hm) (fun h₁ hn₁ hs₁ => ?_) (notModule ok)))
  rw [ok.loc] at hn₁ hs₁
  unfold unbindBehindTheSuite
  refine wpAny_onRaise ?_
  unfold unbindName
  refine wpAny_bind (wpAny_point (wpAny_bind ?_))
  unfold deleteName
  simp only [k1, notModule ok]
  rw [if_neg (by decide)]
  refine wpAny_bind ?_
  rw [ok.loc]
  refine nsDel_keep hn₁ (by simp) fun h₂ m₂ hn₂ hk₂ hs₂ => ?_
  simp only [if_true, Option.isSome_some, Bool.not_true, Bool.false_eq_true, if_false]
  refine wpAny_pure (wpAny_point (h _ ?_))
  exact I.dropV ok _ hx hv hn₂ (fun y hy => by rw [hk₂ y hy, if_neg hy]) (hs₁.trans hs₂)

/-- a shared cell is born -/
theorem Inv.born (I : Inv c g σ s) {k : Nat} {a : Addr} {C' : Cell} (hk : σ.cells[k]? = some .unborn) (hK : g.K a = none) (hL : a ≠ c.L) (hC : ∀ j, g.ad j ≠ some a) {o : Obj} (ho : s.heap.get? a = some o)
    (hl' : C'.live = true) (hc : CellOk (g.cell k a) s.heap a C') : g.le (g.cell k a) ∧ Inv c (g.cell k a) (σ.setC k C') s := by
  have hadk := I.adU k hk
  have L := Gh.le_cell a hadk
  have klt : k < σ.cells.length := (List.getElem?_eq_some_iff.mp hk).1
  have at_ : ∀ j D, (σ.cells.set k C')[j]? = some D → (j = k ∧ D = C') ∨ (j ≠ k ∧ σ.cells[j]? = some D) := by
    intro j D e
    by_cases hj : j = k
    · subst hj; rw [List.getElem?_set_self klt] at e; exact .inl ⟨rfl, (Option.some.inj e).symm⟩
    · rw [List.getElem?_set_ne (Ne.symm hj)] at e; exact .inr ⟨hj, e⟩
  have adk : (g.cell k a).ad k = some a := Gh.cell_ad _ _ _
  have ado : ∀ j, j ≠ k → (g.cell k a).ad j = g.ad j := fun j hj => if_neg hj
  refine ⟨L, I.kept, I.zin, I.zK, I.base, ?_, I.KL, ?_, ?_, ?_, ?_, I.outer, I.gens, I.os, ?_, ?_⟩
  · obtain ⟨m, h1, h2⟩ := I.loc
    exact ⟨m, h1, fun i x a h3 h4 => let ⟨v, q1, q2⟩ := h2 i x a h3 h4; ⟨v, q1, q2.le L⟩⟩
  · intro j D e l
    rcases at_ j D e with ⟨rfl, rfl⟩ | ⟨hj, e'⟩
    · exact ⟨a, adk, hK, hL, hc⟩
    · obtain ⟨b, p1, p2, p3, p4⟩ := I.cells j D e' l
      exact ⟨b, L.ad _ _ p1, p2, p3, p4.mono L.z L.ad fun _ e => e⟩
  · intro i j b Ci Cj e1 l1 e2 l2 a1 a2
    rcases at_ i Ci e1 with ⟨rfl, rfl⟩ | ⟨hi, e1'⟩ <;> rcases at_ j Cj e2 with ⟨rfl, rfl⟩ | ⟨hj, e2'⟩
    · rfl
    · rw [adk] at a1; cases a1; rw [ado j hj] at a2; exact absurd a2 (hC j)
    · rw [adk] at a2; cases a2; rw [ado i hi] at a1; exact absurd a1 (hC i)
    · rw [ado i hi] at a1; rw [ado j hj] at a2; exact I.inj i j b Ci Cj e1' l1 e2' l2 a1 a2
  · intro j e
    rcases at_ j _ e with ⟨rfl, h⟩ | ⟨hj, e'⟩
    · rw [← h] at hl'; cases hl'
    · rw [ado j hj]; exact I.adU j e'
  · intro j hj
    have hj' : σ.cells.length ≤ j := by simpa [AS.setC] using hj
    rw [ado j (by lia)]; exact I.adN j hj'
  · intro j b e
    by_cases hj : j = k
    · subst hj; rw [adk] at e; cases e; exact ⟨o, ho⟩
    · rw [ado j hj] at e; exact I.adAt j b e
  · intro j b e h
    by_cases hj : j = k
    · subst hj; rw [adk] at e; cases e; exact absurd hK h
    · rw [ado j hj] at e; exact I.adK j b e h

/-- a tuple is taken apart -/
theorem ev_unp (ok : CxOk c) : ∀ {is : List Nat} {ts : List Expr} {vs : List Value} {xs : List AV} {σ : AS} {s : Shared} {Q : Unit → Shared → Prop} {E : Value → Shared → Prop}, areLocs (Sx c) is ts = true → RVs g vs xs → xs.length = is.length → Inv c g σ s →
    (∀ s', Inv c g (σ.putAll is xs) s' → Q () s') → wpAny c.M c.A (assignInOrder ((assignEach ts c.env).map (·.2)) vs) Q E s
  | [], [], _, _, σ, s, Q, E, _, .nil, _, I, h => assignInOrder_nil (h _ I)
  | i :: is, t :: ts, _, _, σ, s, Q, E, hl, .cons (x := x) (xs := xs) r rs, hlen, I, h => by
    unfold areLocs at hl
    simp only [Bool.and_eq_true] at hl
    obtain ⟨y, p, rfl, hx⟩ := isLoc_name hl.1
    refine assignInOrder_cons (t := assign (.Name y p) c.env) (ts := (assignEach ts c.env).map (·.2)) ?_
    refine assign_Name (ev_store ok I hx r fun s2 I2 _ => ?_)
    exact ev_unp ok hl.2 rs (by simpa using hlen) I2 h
  | [], [], _, _, _, _, _, _, _, .cons _ _, hlen, _, _ => nomatch hlen
  | [], _ :: _, _, _, _, _, _, _, hl, _, _, _, _ => nomatch hl
  | _ :: _, [], _, _, _, _, _, _, hl, _, _, _, _ => nomatch hl
  | _ :: _, _ :: _, _, _, _, _, _, _, _, .nil, hlen, _, _ => nomatch hlen
theorem areLocs_each (env : Env) {S : Sc} : ∀ {is : List Nat} {ts : List Expr}, areLocs S is ts = true → (assignEach ts env).length = is.length ∧ (assignEach ts env).findIdx? (·.1) = none
  | [], [], _ => ⟨rfl, rfl⟩
  | i :: is, t :: ts, hl => by
    unfold areLocs at hl
    simp only [Bool.and_eq_true] at hl
    obtain ⟨y, p, rfl, hx⟩ := isLoc_name hl.1
    obtain ⟨h1, h2⟩ := areLocs_each env hl.2
    have e : assignEach (.Name y p :: ts) env = (false, assign (.Name y p) env) :: assignEach ts env := rfl
    rw [e]
    refine ⟨by simp [h1], ?_⟩
    rw [List.findIdx?_cons, if_neg (show ¬ (false = true) from by decide), h2]; rfl
  | [], _ :: _, hl => nomatch hl
  | _ :: _, [], hl => nomatch hl

theorem inplace_int {op : Operator} (hop : (op == .Add || op == .FloorDiv) = true) {x y : Int} {t u : Tok} {P' : AV → Prop} {Q' : Value → Shared → Prop} {E' : Value → Shared → Prop} (I : Inv c g σ s) (h : binS op σ (.int x) (.int y) P')
    (k : Ok RV c g (fun r σ' => σ' = σ ∧ P' r) Q') : wpAny c.M c.A (inplaceOp op (.int x t) (.int y u)) Q' E' s := by
  cases op <;> first | (exact Bool.noConfusion hop) | skip
  · exact iadd_int (k.here I (.int _ _) ⟨rfl, h⟩ _)
  · have h : 0 < y ∧ y < 10000 ∧ P' (.int (x.fdiv y)) := h
    exact ifloordiv_int (Int.ne_of_gt h.1) (k.here I (.int _ _) ⟨rfl, h.2.2⟩ _) (Or.inl (PyProof.noPylong_small (by lia)))
end
end Mine
end

-- E24
section
open PySem PySem.W PyProof.Rows
set_option linter.unusedVariables false
set_option maxRecDepth 100000
namespace Mine

/-- the context within an except clause -/
noncomputable def Cx.mk' (c : Cx) (e : Addr) : Cx := { c with A := c.A.mark (some (.ref e)) }

section
variable {c : Cx} {σ : AS} {g : Gh} {s : Shared} {Φ : Spec1}

theorem CxOk.mk' (ok : CxOk c) (e : Addr) : CxOk (c.mk' e) := ⟨ok.kind, ok.loc, ok.frm, ok.glob, ok.blt, ok.fr, ok.depth, ok.units, ok.nodup, ok.isLoc⟩
theorem Inv.mk' (I : Inv c g σ s) (e : Addr) : Inv (c.mk' e) g σ s := ⟨I.kept, I.zin, I.zK, I.base, I.loc, I.KL, I.cells, I.inj, I.adU, I.adN, I.outer, I.gens, I.os, I.adAt, I.adK⟩
theorem Inv.of' {e : Addr} (I : Inv (c.mk' e) g σ s) : Inv c g σ s := ⟨I.kept, I.zin, I.zK, I.base, I.loc, I.KL, I.cells, I.inj, I.adU, I.adN, I.outer, I.gens, I.os, I.adAt, I.adK⟩

theorem notComp {v : Expr} (h : (!isCompOf v) = true) (t : Option Expr) (l : Nat) (env : Env) : swapsWith v t l env = pure false := by cases v <;> first | rfl | exact Bool.noConfusion h

theorem sndAsg (ok : CxOk c) (K : c.A.handled = none → CallsOk Φ c) {i : Nat} {e : CE} (hh : c.A.handled = none ∨ e.simple = true) {st : Stmt} (h : chkS (Sx c) (.asg i e) st = true) : SOk Φ c (.asg i e) st := by
  refine sAsg_el (M := SOk Φ c (.asg i e)) h fun t v pos h => ?_
  simp only [Bool.and_eq_true] at h
  obtain ⟨⟨h1, h2⟩, h3⟩ := h
  obtain ⟨x, p, rfl, hx⟩ := isLoc_name h1
  have A := (sndE ok K e v h3 hh).1
  intro σ P X hw g s Q' E' I hok hbad
  refine wpAny_Assign_Name (A σ _ X hw g s _ E' I (fun u a σ' g' s' le I' r q => ?_) hbad) (notComp h2 _ _ _)
  exact ev_store ok I' hx r fun s2 I2 _ => hok .next .next _ _ _ le I2 trivial q

theorem chk_ne_nil {b : CSs} {ss : List Stmt} {i : Nat} {e : CE} (hb : b = .cons (.asg i e) .nil) (h : chkSs (Sx c) b ss = true) : ∃ st, ss = [st] ∧ chkS (Sx c) (.asg i e) st = true := by
  subst hb
  cases ss with
  | nil => exact Bool.noConfusion h
  | cons st r =>
    have h := Bool.and_eq_true_iff.mp h
    cases r with
    | nil => exact ⟨st, rfl, h.1⟩
    | cons _ _ => exact nomatch h.2

/-- the handler's suite: one plain store -/
theorem ev_suite (ok : CxOk c) {e : Addr} {i : Nat} {ce : CE} {st : Stmt} (hs : ce.simple = true) (h : chkS (Sx c) (.asg i ce) st = true) {P : AF → AS → Prop} {X : Phi → AS → Prop} (hw : wpSs Φ (.cons (.asg i ce) .nil) σ P X) {Q' : Flow → Shared → Prop} {E' : Value → Shared → Prop}
    (I : Inv c g σ s) (hok : Ok RF c g P Q') : wpAny c.M (c.A.mark (some (.ref e))) (execs [st] c.env) Q' E' s := by
  have B := sndAsg (c := c.mk' e) (Φ := Φ) (ok.mk' e) (fun q => by simp [Cx.mk', Around.mark] at q) (i := i) (.inr hs) (st := st) h
  have hw' : wpS Φ (.asg i ce) σ (fun fl σ' => match fl with | .next => P .next σ' | .brk => P .brk σ' | .ret v => P (.ret v) σ') (fun _ _ => False) := by
    refine wpE_S ce hs hw fun a σ q => ?_
    exact q
  refine wpAny_execs_cons (B σ _ _ hw' g s _ E' (I.mk' e) (fun f af σ' g' s' le I' rf q => ?_) (fun _ _ _ _ _ _ _ _ hX => hX.elim))
  cases f with
  | next =>
    cases af with
    | next => exact wpAny_execs_nil (hok .next .next σ' g' s' le I'.of' trivial q)
    | _ => cases rf
  | brk =>
    cases af with
    | brk => exact hok .brk .brk σ' g' s' le I'.of' trivial q
    | _ => cases rf
  | ret v =>
    cases af with
    | ret a => exact hok (.ret v) (.ret a) σ' g' s' le I'.of' rf q
    | _ => cases rf
  | cont => cases af <;> cases rf

theorem snd_asgL (ok : CxOk c) (K : CallsOk Φ c) (hh : c.A.handled = none) {i : Nat} {es : CEs} {st : Stmt} (h : chkS (Sx c) (.asgL i es) st = true) : SOk Φ c (.asgL i es) st := by
    refine sAsgL_el (M := SOk Φ c (.asgL i es)) h fun t xs q pos h => ?_
    simp only [Bool.and_eq_true] at h
    obtain ⟨x, p, rfl, hx⟩ := isLoc_name h.1
    have A := sndEs ok (fun _ => K) es xs h.2 (.inl hh)
    intro σ P X hw g s Q' E' I hok hbad
    refine wpAny_Assign_Name (wpAny_List (A _ σ _ X hw g s _ E' I (fun vs as σ' g' s' le I' r q => ⟨?_, ?_⟩) hbad))
    · rw [r.length, sizeLine_val]; have := q.1; lia
    · have L := Gh.le_cell (g := g') s'.heap.objs.size (I'.adN _ (Nat.le_refl _))
      exact ev_store ok (I'.newCell r) hx (.ref (Gh.cell_ad _ _ _)) fun s2 I2 _ => hok .next .next _ _ _ (le.trans L) I2 trivial q.2.2

theorem snd_unp (ok : CxOk c) (K : CallsOk Φ c) (hh : c.A.handled = none) {is : List Nat} {e : CE} {st : Stmt} (h : chkS (Sx c) (.unp is e) st = true) : SOk Φ c (.unp is e) st := by
    refine sUnp_el (M := SOk Φ c (.unp is e)) h fun ts k tp f xs ks q pos h => ?_
    simp only [Bool.and_eq_true] at h
    have A := (sndE ok (fun _ => K) e (.Call f xs ks q) h.2 (.inl hh)).1
    intro σ P X hw g s Q' E' I hok hbad
    refine Assign_Tuple (A σ _ X hw g s _ E' I (fun v a σ' g' s' le I' r qq => ?_) hbad) rfl rfl
    cases a with
    | tup as =>
      obtain ⟨l, vs, n, rfl, hT, rs⟩ := I'.seqT r
      obtain ⟨e1, e2⟩ := areLocs_each c.env h.1
      refine assign_Tuple_tuple (items := vs.toArray) hh ⟨_, hT, rfl, n, rfl⟩ (by rw [e1, List.size_toArray, rs.length]; exact qq.1.symm) e2 fun h' hs => ?_
      have I2 := I'.upd (h' := h') s'.toks (fun b o hb hr => hs b o (Nat.ne_of_lt (Heap.lt_size hb)) hb)
      exact ev_unp ok h.1 rs qq.1 I2 fun s3 I3 => hok .next .next _ _ _ le I3 trivial qq.2
    | _ => cases qq

theorem snd_setAt (ok : CxOk c) (K : CallsOk Φ c) (hh : c.A.handled = none) {i : Nat} {f : Fld} {e : CE} {st : Stmt} (h : chkS (Sx c) (.setAt i f e) st = true) : SOk Φ c (.setAt i f e) st := by
    refine sSetAt_el (M := SOk Φ c (.setAt i f e)) h fun o y p v pos h => ?_
    simp only [Bool.and_eq_true, beq_iff_eq] at h
    obtain ⟨⟨⟨h1, rfl⟩, h2⟩, h3⟩ := h
    obtain ⟨x, xp, rfl, hx⟩ := isLoc_name h1
    have A := (sndE ok (fun _ => K) e v h3 (.inl hh)).1
    intro σ P X hw g s Q' E' I hok hbad
    refine plainObj_wpAny_Assign_Attribute (A σ _ X hw g s _ E' I (fun u a σ' g' s' le I' r q => ?_) hbad) (notComp h2 _ _ _)
    refine insP_el q fun fs ha hC q => ?_
    refine ev_loc ok I' hx ha fun w rw => ?_
    exact ev_setattr I' rw hC r q.2.1 fun s2 I2 => hok .next .next _ _ _ le I2 trivial q.2.2

theorem snd_setSub (ok : CxOk c) (K : CallsOk Φ c) (hh : c.A.handled = none) {i n : Nat} {e : CE} {st : Stmt} (h : chkS (Sx c) (.setSub i n e) st = true) : SOk Φ c (.setSub i n e) st := by
    refine sSetSub_el (M := SOk Φ c (.setSub i n e)) h fun o k kk kp p v pos h => ?_
    simp only [Bool.and_eq_true, beq_iff_eq] at h
    obtain ⟨⟨⟨h1, rfl⟩, h2⟩, h3⟩ := h
    obtain ⟨x, xp, rfl, hx⟩ := isLoc_name h1
    have A := (sndE ok (fun _ => K) e v h3 (.inl hh)).1
    intro σ P X hw g s Q' E' I hok hbad
    refine wpAny_Assign_Subscript (A σ _ X hw g s _ E' I (fun u a σ' g' s' le I' r q => ?_) hbad) (notComp h2 _ _ _)
    refine refP_el q fun k' ha q => lstAt_el q fun xs hC q => ?_
    refine ev_loc ok I' hx ha fun w rw => ?_
    obtain ⟨l, vs, m, rfl, hk, hl, rs⟩ := I'.cellList rw hC
    refine wpAny_Constant_int ?_
    refine setItem_list (s := { s' with toks := s'.toks + 1 }) hl q.2.1 (by rw [List.size_toArray, rs.length]; exact q.1) ?_
    exact hok .next .next _ _ _ le ((I'.toks _).listTo hC hk hl (by simp) (rs.set n r)) trivial q.2.2.2

theorem snd_aug (ok : CxOk c) (K : CallsOk Φ c) (hh : c.A.handled = none) {i : Nat} {op : Operator} {e : CE} {st : Stmt} (h : chkS (Sx c) (.aug i op e) st = true) : SOk Φ c (.aug i op e) st := by
    refine dAug_el (M := SOk Φ c (.aug i op e)) h fun t o v pos h => ?_
    simp only [Bool.and_eq_true, beq_iff_eq] at h
    obtain ⟨⟨⟨h1, rfl⟩, hop⟩, h3⟩ := h
    obtain ⟨x, xp, rfl, hx⟩ := isLoc_name h1
    have A := (sndE ok (fun _ => K) e v h3 (.inl hh)).1
    intro σ P X hw g s Q' E' I hok hbad
    refine augQ_el hw (fun z ha hw => ?_) (fun k ha hw => ?_)
    · skip
      refine wpAny_AugAssign_Name (ev_loadLoc ok I hx ha fun w rw => ?_)
      obtain ⟨tw, rfl⟩ := rw.int_inv
      refine A σ _ X hw g s _ E' I (fun u a σ' g' s' le I' r q => ?_) hbad
      cases a with
      | int y =>
        obtain ⟨tu, rfl⟩ := r.int_inv
        refine inplace_int hop I' q (fun v' a' σ2 g2 s2 le2 I2 r2 q2 => ?_)
        obtain ⟨rfl, q2⟩ := q2
        exact ev_store ok I2 hx r2 fun s3 I3 _ => hok .next .next _ _ _ (le.trans le2) I3 trivial q2
      | _ => cases q
    · skip
      refine wpAny_AugAssign_Name (ev_loadLoc ok I hx ha fun w rw => ?_)
      refine A σ _ X hw g s _ E' I (fun u a σ' g' s' le I' r q => ?_) hbad
      refine augR_el q fun ys xs e1 e2 hC q1 q2 => ?_
      subst e1 e2
      obtain ⟨l, vs, m, rfl, hk, hl, rs⟩ := I'.cellList (rw.le le) hC
      obtain ⟨l2, vs2, m2, rfl, hl2, rs2⟩ := I'.items r rfl
      refine iadd_list hl hl2 (by simp [rs.length, rs2.length]; lia) ?_
      refine ev_store ok (I'.listTo hC hk hl (ws := vs ++ vs2) (by simp) (rs.append rs2)) hx (rw.le le) fun s3 I3 _ => hok .next .next _ _ _ le I3 trivial q2

theorem snd_augSub (ok : CxOk c) (K : CallsOk Φ c) (hh : c.A.handled = none) {i n : Nat} {op : Operator} {e : CE} {st : Stmt} (h : chkS (Sx c) (.augSub i n op e) st = true) : SOk Φ c (.augSub i n op e) st := by
    refine sAugSub_el (M := SOk Φ c (.augSub i n op e)) h fun t k kk kp p o v pos h => ?_
    simp only [Bool.and_eq_true, beq_iff_eq] at h
    obtain ⟨⟨⟨⟨h1, rfl⟩, rfl⟩, rfl⟩, h3⟩ := h
    obtain ⟨x, xp, rfl, hx⟩ := isLoc_name h1
    have A := (sndE ok (fun _ => K) e v h3 (.inl hh)).1
    intro σ P X hw g s Q' E' I hok hbad
    refine refP_el hw fun k' ha hw => lstAt_el hw fun xs hC hw => ?_
    obtain ⟨hn, hw⟩ := hw
    refine oIntP_el hw fun z hz hw => ?_
    refine wpAny_AugAssign_Subscript_any (ev_loc ok I hx ha fun w rw => ?_)
    obtain ⟨l, vs, m, rfl, hk, hl, rs⟩ := I.cellList rw hC
    refine wpAny_Constant_int ?_
    obtain ⟨val, e1, e2⟩ := rs.get hz
    obtain ⟨tv, rfl⟩ := e2.int_inv
    refine wpAny_getItem_list (s := { s with toks := s.toks + 1 }) hl.isList (by lia) (by lia) (x := .int z tv) (by simpa using e1) ?_
    refine A σ _ X hw g { s with toks := s.toks + 1 } _ E' (I.toks _) (fun u a σ' g' s' le I' r q => ?_) hbad
    refine intP_el q fun y e q => lstAt_el q fun xs' hC' q3 => ?_
    subst e
    obtain ⟨tu, rfl⟩ := r.int_inv
    refine inplace_int (op := .Add) (by decide) I' q3.2.2 (fun v' a' σ2 g2 s2 le2 I2 r2 q2 => ?_)
    obtain ⟨rfl, q2⟩ := q2
    obtain ⟨l2, vs2, m2, hl0, hk2, hl2, rs2⟩ := I2.cellList (rw.le (le.trans le2)) hC'
    cases hl0
    refine setItem_list hl2 hn (by rw [List.size_toArray, rs2.length]; exact q3.1) ?_
    exact hok .next .next _ _ _ (le.trans le2) (I2.listTo hC' hk2 hl2 (by simp) (rs2.set n r2)) trivial q2

theorem snd_app (ok : CxOk c) (K : CallsOk Φ c) (hh : c.A.handled = none) {i : Nat} {e : CE} {st : Stmt} (h : chkS (Sx c) (.app i e) st = true) : SOk Φ c (.app i e) st := by
    refine sApp_el (M := SOk Φ c (.app i e)) h fun o y p v q pos h => ?_
    simp only [Bool.and_eq_true, beq_iff_eq] at h
    obtain ⟨⟨⟨h1, rfl⟩, hl⟩, h3⟩ := h
    obtain ⟨x, xp, rfl, hx⟩ := isLoc_name h1
    have A := (sndE ok (fun _ => K) e v h3 (.inl hh)).1
    intro σ P X hw g s Q' E' I hok hbad
    refine refP_el hw fun k ha hw => lstAt_el hw fun xs0 hC0 hw => ?_
    refine wpAny_Expr_any ?_ (by unfold interactive; rw [ok.kind]; rfl) rfl
    refine Call_method1 rfl (notStar_of c.env v (goodShape_notStar (chkE_shape h3)) []) (by simpa using hl) (ev_loc ok I hx ha fun w rw => ?_)
    obtain ⟨l, vs0, m0, rfl, hk0, hl0, rs0⟩ := I.cellList rw hC0
    refine ⟨"list", "list.append", F.plainAttrs_list, F.slot_list_append, F.type_list_append, ⟨_, hl0, rfl⟩, (fun a ea => by cases ea; exact ⟨_, hl0, rfl⟩), ?_⟩
    refine PySem.P.append_list (A σ _ X hw g s _ E' I (fun u a σ' g' s' le I' r q => ?_) hbad)
    refine lstAt_el q fun xs hC q => ?_
    obtain ⟨l2, vs, m, hll, hk, hl2, rs⟩ := I'.cellList (rw.le le) hC
    cases hll
    refine ⟨_, m, by rw [List.size_toArray, rs.length, sizeLine_val]; have := q.1; lia, hl2, ?_⟩
    exact hok .next .next _ _ _ le (I'.listTo hC hk hl2 (ws := vs ++ [u]) (by simp) (rs.append (.cons r .nil))) trivial q.2

theorem snd_rev (ok : CxOk c) (K : CallsOk Φ c) (hh : c.A.handled = none) {i : Nat} {st : Stmt} (h : chkS (Sx c) (.rev i) st = true) : SOk Φ c (.rev i) st := by
    refine sRev_el (M := SOk Φ c (.rev i)) h fun o y p q pos h => ?_
    simp only [Bool.and_eq_true, beq_iff_eq] at h
    obtain ⟨⟨h1, rfl⟩, hl⟩ := h
    obtain ⟨x, xp, rfl, hx⟩ := isLoc_name h1
    intro σ P X hw g s Q' E' I hok hbad
    refine refP_el hw fun k ha hw => lstAt_el hw fun xs hC hw => ?_
    refine wpAny_Expr_any ?_ (by unfold interactive; rw [ok.kind]; rfl) rfl
    refine Call_method0 rfl (by simpa using hl) (ev_loc ok I hx ha fun w rw => ?_)
    obtain ⟨l, vs, m, rfl, hk, hl0, rs⟩ := I.cellList rw hC
    refine ⟨"list", "list.reverse", F.plainAttrs_list, F.slot_list_reverse, F.type_list_reverse, ⟨_, hl0, rfl⟩, (fun a ea => by cases ea; exact ⟨_, hl0, rfl⟩), ?_⟩
    refine PySem.P.reverse_list hl0 ?_ (by rw [List.size_toArray, rs.length, sizeLine_val]; have := hw.1; lia)
    exact hok .next .next _ _ _ (.refl g) (I.listTo hC hk hl0 (ws := vs.reverse) (by simp) rs.reverse) trivial hw.2

theorem snd_exp (ok : CxOk c) (K : CallsOk Φ c) (hh : c.A.handled = none) {e : CE} {st : Stmt} (h : chkS (Sx c) (.exp e) st = true) : SOk Φ c (.exp e) st := by
    refine dExprS_el (M := SOk Φ c (.exp e)) h fun v pos h => ?_
    simp only [Bool.and_eq_true] at h
    have A := (sndE ok (fun _ => K) e v h.2 (.inl hh)).1
    intro σ P X hw g s Q' E' I hok hbad
    exact wpAny_Expr_any (A σ _ X hw g s _ E' I (fun u a σ' g' s' le I' r q => hok .next .next _ _ _ le I' trivial q) hbad) (by unfold interactive; rw [ok.kind]; rfl) (notComp h.1 _ _ _)

theorem snd_ret (ok : CxOk c) (K : CallsOk Φ c) (hh : c.A.handled = none) {e : CE} {st : Stmt} (h : chkS (Sx c) (.ret e) st = true) : SOk Φ c (.ret e) st := by
    refine sRet_el (M := SOk Φ c (.ret e)) h fun x pos h => ?_
    have A := (sndE ok (fun _ => K) e x h (.inl hh)).1
    intro σ P X hw g s Q' E' I hok hbad
    exact wpAny_Return_some (A σ _ X hw g s _ E' I (fun u a σ' g' s' le I' r q => hok (.ret u) (.ret a) _ _ _ le I' r q) hbad)

theorem snd_ret0 (ok : CxOk c) (K : CallsOk Φ c) (hh : c.A.handled = none)  {st : Stmt} (h : chkS (Sx c) (.ret0) st = true) : SOk Φ c (.ret0) st := by
    refine sRet0_el (M := SOk Φ c (.ret0)) h fun _ h => ?_
    intro σ P X hw g s Q' E' I hok hbad
    exact wpAny_Return_none (hok (.ret .none) (.ret .non) _ _ _ (.refl g) I .non hw)

theorem snd_retL (ok : CxOk c) (K : CallsOk Φ c) (hh : c.A.handled = none) {es : CEs} {st : Stmt} (h : chkS (Sx c) (.retL es) st = true) : SOk Φ c (.retL es) st := by
    refine sRetL_el (M := SOk Φ c (.retL es)) h fun xs q pos h => ?_
    have A := sndEs ok (fun _ => K) es xs h (.inl hh)
    intro σ P X hw g s Q' E' I hok hbad
    refine wpAny_Return_some (wpAny_List (A _ σ _ X hw g s _ E' I (fun vs as σ' g' s' le I' r q => ⟨?_, ?_⟩) hbad))
    · rw [r.length, sizeLine_val]; have := q.1; lia
    · have I1 := I'.grow (h' := s'.heap.push { cls := .type "list", data := .seq vs.toArray }) (fun b o e => Heap.get?_push_of_some _ e) s'.toks
      obtain ⟨L, I2⟩ := I1.born (C' := .lst as) q.2.1 I'.freshK (Nat.ne_of_gt I'.ltL) I'.fresh_ad (Heap.get?_push_size _ rfl) rfl ⟨vs, 0, IsL.new _ _, r.le (Gh.le_cell s'.heap.objs.size (I'.adU _ q.2.1))⟩
      exact hok (.ret (.ref _)) (.ret (.ref 0)) _ _ _ (le.trans L) I2 (.ref (Gh.cell_ad _ _ _)) q.2.2

theorem snd_brk (ok : CxOk c) (K : CallsOk Φ c) (hh : c.A.handled = none)  {st : Stmt} (h : chkS (Sx c) (.brk) st = true) : SOk Φ c (.brk) st := by
    refine dBreak_el (M := SOk Φ c (.brk)) h fun _ h => ?_
    intro σ P X hw g s Q' E' I hok hbad
    exact wpAny_Break (hok .brk .brk _ _ _ (.refl g) I trivial hw)

theorem snd_raiseF (ok : CxOk c) (K : CallsOk Φ c) (hh : c.A.handled = none) {kind : Str} {e : CE} {st : Stmt} (h : chkS (Sx c) (.raiseF kind e) st = true) : SOk Φ c (.raiseF kind e) st := by
    refine sRaise_el (M := SOk Φ c (.raiseF kind e)) h fun o y p x k kp v q pos h => ?_
    simp only [Bool.and_eq_true, beq_iff_eq] at h
    obtain ⟨⟨⟨⟨h1, rfl⟩, hl⟩, rfl⟩, h3⟩ := h
    obtain ⟨nm, np, rfl, hx⟩ := isLoc_name h1
    have A := (sndE ok (fun _ => K) e v h3 (.inl hh)).1
    intro σ P X hw g s Q' E' I hok hbad
    refine insP_el hw fun fs0 ha hC0 hw => ?_
    rw [arm_exec_Raise]
    refine wpAny_bind (wpAny_standAt (ev_raiseStmt hh (wpAny_bind ?_)))
    have hns : ([Expr.Constant (.str x) k kp, v] : List Expr).all notStarB = true := by
      simp only [List.all_cons, List.all_nil, Bool.and_true, goodShape_notStar (chkE_shape h3)]; rfl
    refine ev_meth ok I hx ha hC0 (f := 157) (by decide) hns (show (2:Nat) < 20 by decide) (by simpa using hl) fun w rw => ?_
    refine args_cons (Calls.Constant_str ?_) (notStar_of c.env _ rfl _)
    refine args_cons (A σ _ X hw g _ _ E' (I.toks _) (fun u a σ' g' s' le I' r qq => args_nil ⟨σ', g', I', ?_⟩) hbad) (notStar_of c.env v (goodShape_notStar (chkE_shape h3)) [])
    refine intP_el qq fun at_ e qq => dctAt_el qq fun fs hC q2 => ?_
    subst e
    exact K.flt q2 hC I' (rw.le le) r fun e φ σ2 g2 s2 le2 I2 F2 hX => wpAny_bind (wpAny_standAt (wpAny_pure ⟨e, φ, σ2, g2, I2, rfl, F2, hbad e φ σ2 g2 s2 (le.trans le2) I2 (.inl F2) hX⟩))

/-- try … except SyntaxFault: a plain store -/
theorem snd_tryN (ok : CxOk c) {b hd : CSs} {body hb : List Stmt} {t : Expr} {hp pos : Pos} (B : SsOk Φ c b body) (h1 : isGlob (Sx c) "SyntaxFault" t = true) (h3 : chkSs (Sx c) hd hb = true)
    {j : Nat} {ce : CE} (hdd : hd = .cons (.asg j ce) .nil) (h4 : ce.simple = true) : SOk Φ c (.tryN b hd) (.Try body [.ExceptHandler (some t) none hb hp] [] [] pos) := by
  obtain ⟨np, rfl, hk, hdb⟩ := isGlob_name h1
  subst hdd
  · obtain ⟨st, rfl, hst⟩ := chk_ne_nil rfl h3
    intro σ P X hw g s Q' E' I hok hbad
    refine wpAny_Try_except (B σ P _ hw g s _ _ I (fun f af σ' g' s' le I' rf q => ?_) (fun e φ σ' g' s' le I' F hX => ?_))
    · cases f with
      | next => exact wpAny_execs_nil (hok _ _ _ _ _ le I' rf q)
      | _ => exact hok _ _ _ _ _ le I' rf q
    · refine fly_note ok I' F fun s1 I1 F1 => fly_flight I1 F1 none fun s2 I2 F2 => ?_
      obtain ⟨T, FP, TB⟩ := id F2
      refine wpAny_handleBy_cons (codeAny_handlers_test ?_) (by intro q; cases q)
      refine ev_glob (c := c.mk' e) (ok.mk' e) (I2.mk' e) hk hdb c.W.flt ?_
      refine ev_matches I2 FP ?_
      refine codeAny_handlers_suite ?_
      refine fly_flight (c := c.mk' e) (I2.mk' e) F2 none fun s3 I3 F3 => ?_
      exact ev_suite ok h4 hst hX I3.of' (fun f af σ2 g2 s4 le2 I4 rf q => hok _ _ _ _ _ (le.trans le2) I4 rf q)
/-- try … except SyntaxFault as error: a plain store -/
theorem snd_tryA (ok : CxOk c) {b hd : CSs} {i : Nat} {n : Str} {body hb : List Stmt} {t : Expr} {hp pos : Pos} (B : SsOk Φ c b body) (h1 : isGlob (Sx c) "SyntaxFault" t = true) (hx : c.names[i]? = some n) (h3 : chkSs (Sx c) hd hb = true)
    {j : Nat} {ce : CE} (hdd : hd = .cons (.asg j ce) .nil) (h4 : ce.simple = true) : SOk Φ c (.tryA b i hd) (.Try body [.ExceptHandler (some t) (some n) hb hp] [] [] pos) := by
  obtain ⟨np, rfl, hk, hdb⟩ := isGlob_name h1
  subst hdd
  · obtain ⟨st, rfl, hst⟩ := chk_ne_nil rfl h3
    intro σ P X hw g s Q' E' I hok hbad
    refine wpAny_Try_except (B σ P _ hw g s _ _ I (fun f af σ' g' s' le I' rf q => ?_) (fun e φ σ' g' s' le I' F hX => ?_))
    · cases f with
      | next => exact wpAny_execs_nil (hok _ _ _ _ _ le I' rf q)
      | _ => exact hok _ _ _ _ _ le I' rf q
    · refine fly_note ok I' F fun s1 I1 F1 => fly_flight I1 F1 none fun s2 I2 F2 => ?_
      obtain ⟨T, FP, TB⟩ := id F2
      refine wpAny_handleBy_cons (codeAny_handlers_test ?_) (by intro q; cases q)
      refine ev_glob (c := c.mk' e) (ok.mk' e) (I2.mk' e) hk hdb c.W.flt ?_
      refine ev_matches I2 FP ?_
      refine codeAny_handlers_suite_as ?_
      refine fly_flight (c := c.mk' e) (I2.mk' e) F2 none fun s3 I3 F3 => ?_
      obtain ⟨T3, ⟨q1, q2, q3, o, vs, q4, q5, q6, q7⟩, TB3⟩ := F3
      have hz := I3.zK _ q1
      have L := le_adopt (g := g') (D := e) (o := o) q1 hz
      have I4 := I3.of'.freeze (D := e) q1 q2 (fun k C _ _ => q3 k) q4
      have rv : RV (g'.add e o) (.ref e) (.flt φ.1 φ.2.1 φ.2.2.1 φ.2.2.2) := .flt (Gh.add_z _ _ _) (q6.mono L.z)
      refine ev_store (c := c.mk' e) (ok.mk' e) (I4.mk' e) hx rv fun s5 I5 _ => ?_
      refine ev_suite ok h4 hst hX I5.of' (fun f af σ2 g2 s6 le2 I6 rf q => ?_)
      exact ev_nameGoes ok I6 hx fun s7 I7 => hok _ _ _ _ _ ((le.trans L).trans le2) I7 rf q

set_option maxHeartbeats 2000000 in
mutual
theorem sndS (ok : CxOk c) (K : CallsOk Φ c) (hh : c.A.handled = none) : (cs : CS) → (st : Stmt) → chkS (Sx c) cs st = true → SOk Φ c cs st
  | .asg i e, st, h => sndAsg ok (fun _ => K) (.inl hh) h
  | .asgL i es, st, h => snd_asgL ok K hh h
  | .unp is e, st, h => snd_unp ok K hh h
  | .setAt i f e, st, h => snd_setAt ok K hh h
  | .setSub i n e, st, h => snd_setSub ok K hh h
  | .aug i op e, st, h => snd_aug ok K hh h
  | .augSub i n op e, st, h => snd_augSub ok K hh h
  | .app i e, st, h => snd_app ok K hh h
  | .rev i, st, h => snd_rev ok K hh h
  | .exp e, st, h => snd_exp ok K hh h
  | .cif cc t e, st, h => by
    refine dIfS_el (M := SOk Φ c (.cif cc t e)) h fun x a b pos h => ?_
    simp only [Bool.and_eq_true] at h
    obtain ⟨⟨h1, h2⟩, h3⟩ := h
    have C := (sndE ok (fun _ => K) cc x h1 (.inl hh)).2
    have A := sndSs ok K hh t a h2
    have B := sndSs ok K hh e b h3
    intro σ P X hw g s Q' E' I hok hbad
    refine wpAny_If (C σ _ X (fun b' σ' => if b' = true then wpSs Φ t σ' P X else wpSs Φ e σ' P X) hw (fun av σ' q => ?_) g s _ E' I (fun v b' σ' g' s' le I' r q => ?_) hbad)
    · cases ht : tr av with
      | none => rw [ht] at q; cases q
      | some b' => rw [ht] at q; refine ⟨b', rfl, ?_⟩; cases b' <;> exact q
    · cases r
      cases v
      · exact B σ' P X q g' s' Q' E' I' (fun v a σ2 g2 s2 l => hok v a σ2 g2 s2 (le.trans l)) (hbad.le le)
      · exact A σ' P X q g' s' Q' E' I' (fun v a σ2 g2 s2 l => hok v a σ2 g2 s2 (le.trans l)) (hbad.le le)
  | .whl cc b, st, h => by
    refine sWhl_el (M := SOk Φ c (.whl cc b)) h fun x a pos h => ?_
    simp only [Bool.and_eq_true] at h
    have C := (sndE ok (fun _ => K) cc x h.1 (.inl hh)).2
    have B := sndSs ok K hh b a h.2
    intro σ P X hw g s Q' E' I hok hbad
    obtain ⟨Iv, n, hI, hstep⟩ := hw
    refine wpAny_While (codeAny_whileLoop (fun n s => ∃ g' σ', g.le g' ∧ Inv c g' σ' s ∧ Iv σ' n) ?_ n ⟨g, σ, .refl g, I, hI⟩)
    rintro n s ⟨g1, σ1, le1, I1, hI1⟩
    have hb2 : Bad c g1 X (notedBy c.M c.A c.env fun x s' => cameBackBy c.M c.A c.env E' x s') := Bad.loop ok (hbad.le le1)
    refine C σ1 _ X (fun b' σ' => if b' = true then wpSs Φ b σ' (fun fl σ'' => match fl with
        | .next => ∃ m, m < n ∧ Iv σ'' m
        | .brk => P .next σ''
        | .ret v => P (.ret v) σ'') X else P .next σ') (hstep σ1 n hI1) (fun av σ' q => ?_) g1 s _ _ I1 (fun v b' σ' g' s' le I' r q => ?_) hb2
    · cases ht : tr av with
      | none => rw [ht] at q; cases q
      | some b' => rw [ht] at q; refine ⟨b', rfl, ?_⟩; cases b' <;> exact q
    · cases r
      cases v
      · exact wpAny_execs_nil (hok .next .next _ _ _ (le1.trans le) I' trivial q)
      · refine B σ' _ X q g' s' _ _ I' (fun f af σ2 g2 s2 le2 I2 rf q2 => ?_) (hb2.le le)
        have lt := (le1.trans le).trans le2
        cases f with
        | next =>
          cases af with
          | next => obtain ⟨m, hm, hq⟩ := q2; exact ⟨m, hm, g2, σ2, lt, I2, hq⟩
          | _ => cases rf
        | brk =>
          cases af with
          | brk => exact hok .next .next _ _ _ lt I2 trivial q2
          | _ => cases rf
        | ret w =>
          cases af with
          | ret aw => exact hok (.ret w) (.ret aw) _ _ _ lt I2 rf q2
          | _ => cases rf
        | cont => cases af <;> cases rf
  | .forR i e b, st, h => by
    refine sForR_el (M := SOk Φ c (.forR i e b)) h fun t gg x q a pos h => ?_
    simp only [Bool.and_eq_true] at h
    obtain ⟨⟨⟨h1, h2⟩, h3⟩, h4⟩ := h
    obtain ⟨y, yp, rfl, hy⟩ := isLoc_name h1
    obtain ⟨np, rfl, hk, hd⟩ := isGlob_name h2
    have A := (sndE ok (fun _ => K) e x h3 (.inl hh)).1
    have B := sndSs ok K hh b a h4
    intro σ P X hw g s Q' E' I hok hbad
    refine wpAny_For ?_ (fun _ => rfl)
    refine ev_callT ok I hk hd c.W.n_range (by decide) b_range (notStar_of _ _ (goodShape_notStar (chkE_shape h3))) (A σ _ X hw g s _ E' I (fun v av σ' g' s' le I' r qq => ?_) hbad)
    cases av with
    | int n =>
      obtain ⟨tn, rfl⟩ := r.int_inv
      obtain ⟨hn0, hn, hgo⟩ := qq
      refine call_range_1 ?_
      have I1 := I'.grow (h' := s'.heap.push { cls := .type "range", data := .fields #[.int 0 s'.toks, .int n tn, .int 1 (s'.toks + 1)] }) (fun b o e => Heap.get?_push_of_some _ e) (s'.toks + 1 + 1)
      refine wpAny_pyIter_range (IsRange.new _ _ _ _ _ _ _) (small_one (by decide) (by decide) (by lia) (by lia)) ?_
      have I2 := I1.grow (h' := (s'.heap.push { cls := .type "range", data := .fields #[.int 0 s'.toks, .int n tn, .int 1 (s'.toks + 1)] }).push { cls := .type "range_iterator", data := .fields #[rawInt 0, rawInt (Builtin.Range.rangeSize 0 n 1), rawInt 1] }) (fun b o e => Heap.get?_push_of_some _ e) (s'.toks + 1 + 1)
      have hrs : Builtin.Range.rangeSize 0 n 1 = ((n.toNat : Nat) : Int) - ((0 : Nat) : Int) := by rw [rangeSize_one]; split <;> lia
      refine ev_forLoop ok (turns_range hh _ n.toNat g') B hy I2 (Nat.ne_of_gt I1.ltL) I1.freshK I1.fresh_ad (Heap.get?_push_size _ rfl) ?_ hgo (fun v a σ2 g2 s2 l => hok v a σ2 g2 s2 (le.trans l)) (hbad.le le)
      rw [hrs]; rfl
    | _ => cases qq
  | .forL i e b, st, h => by
    refine sForL_el (M := SOk Φ c (.forL i e b)) h fun t x a pos h => ?_
    simp only [Bool.and_eq_true] at h
    obtain ⟨⟨h1, h3⟩, h4⟩ := h
    obtain ⟨y, yp, rfl, hy⟩ := isLoc_name h1
    have A := (sndE ok (fun _ => K) e x h3 (.inl hh)).1
    have B := sndSs ok K hh b a h4
    intro σ P X hw g s Q' E' I hok hbad
    refine wpAny_For (A σ _ X hw g s _ E' I (fun v av σ' g' s' le I' r qq => ?_) hbad) (goodShape_fold (chkE_shape h3) _)
    cases av with
    | lst xs =>
      cases r with
      | @lst l vs n _ hz rs =>
        have hl : IsL s'.heap l vs.toArray n := I'.zin _ _ hz
        refine wpAny_pyIter_list hl.isList ?_
        have I2 := I'.grow (h' := s'.heap.push { cls := .type "list_iterator", data := .fields #[.ref l, .int 0 0] }) (fun b o e => Heap.get?_push_of_some _ e) s'.toks
        exact ev_forLoop ok (turns_list hh _ l hz rs) B hy I2 (Nat.ne_of_gt I'.ltL) I'.freshK I'.fresh_ad (Heap.get?_push_size _ rfl) ⟨rfl, rfl⟩ qq (fun v a σ2 g2 s2 l => hok v a σ2 g2 s2 (le.trans l)) (hbad.le le)
    | _ => cases qq
  | .ret e, st, h => snd_ret ok K hh h
  | .ret0, st, h => snd_ret0 ok K hh h
  | .retL es, st, h => snd_retL ok K hh h
  | .brk, st, h => snd_brk ok K hh h
  | .raiseF kind e, st, h => snd_raiseF ok K hh h
  | .tryN b hd, st, h => by
    refine sTryN_el (M := SOk Φ c (.tryN b hd)) h fun body t hb hp pos h => ?_
    simp only [Bool.and_eq_true] at h
    obtain ⟨⟨⟨h1, h2⟩, h3⟩, h4⟩ := h
    have B := sndSs ok K hh b body h2
    obtain ⟨j, ce, e1, e2⟩ := handS_el h4
    exact snd_tryN ok B h1 h3 e1 e2
  | .tryA b i hd, st, h => by
    refine sTryA_el (M := SOk Φ c (.tryA b i hd)) h fun body t n hb hp pos h => ?_
    simp only [Bool.and_eq_true, beq_iff_eq] at h
    obtain ⟨⟨⟨⟨h1, hx⟩, h2⟩, h3⟩, h4⟩ := h
    have B := sndSs ok K hh b body h2
    obtain ⟨j, ce, e1, e2⟩ := handS_el h4
    exact snd_tryA ok B h1 hx h3 e1 e2
theorem sndSs (ok : CxOk c) (K : CallsOk Φ c) (hh : c.A.handled = none) : (css : CSs) → (ss : List Stmt) → chkSs (Sx c) css ss = true → SsOk Φ c css ss
  | .nil, [], h => by
    intro σ P X hw g s Q' E' I hok hbad
    exact wpAny_execs_nil (hok .next .next _ _ _ (.refl g) I trivial hw)
  | .nil, _ :: _, h => nomatch h
  | .cons _ _, [], h => nomatch h
  | .cons a as, st :: r, h => by
    have h := Bool.and_eq_true_iff.mp h
    have A := sndS ok K hh a st h.1
    have B := sndSs ok K hh as r h.2
    intro σ P X hw g s Q' E' I hok hbad
    refine wpAny_execs_cons (A σ _ X hw g s _ E' I (fun f af σ' g' s' le I' rf q => ?_) hbad)
    cases f with
    | next =>
      cases af with
      | next => exact B σ' P X q g' s' Q' E' I' (fun v a σ2 g2 s2 l => hok v a σ2 g2 s2 (le.trans l)) (hbad.le le)
      | _ => cases rf
    | brk =>
      cases af with
      | brk => exact hok .brk .brk σ' g' s' le I' trivial q
      | _ => cases rf
    | ret v =>
      cases af with
      | ret a => exact hok (.ret v) (.ret a) σ' g' s' le I' rf q
      | _ => cases rf
    | cont => cases af <;> cases rf
end
end
end Mine
end

-- E25
section
open PySem PySem.W PyProof.Rows
set_option linter.unusedVariables false
set_option maxRecDepth 100000
namespace Mine

theorem RV.toC {g g' : Gh} (hz : ∀ a o, g.z a = some o → g'.z a = some o) (ha : ∀ k a, k < 2 → g.ad k = some a → g'.ad k = some a) {v : Value} {x : AV} (r : RV g v x) : x.closed = true → RV g' v x :=
  RV.rec (motive_1 := fun v x _ => x.closed = true → RV g' v x) (motive_2 := fun vs xs _ => AV.closedL xs = true → RVs g' vs xs) (fun _ => .non) (fun b _ => .bool b) (fun i t _ => .int i t) (fun s t _ => .str s t) (fun h1 _ ih hc => .tup (hz _ _ h1) (ih hc)) (fun h1 _ ih hc => .lst (hz _ _ h1) (ih hc)) (fun h hc => .ref (ha _ _ (of_decide_eq_true hc) h)) (fun h1 h2 hc => .ins (ha _ _ (of_decide_eq_true hc) h1) (hz _ _ h2)) (fun h1 h2 _ => .flt (hz _ _ h1) (h2.mono hz)) (fun _ => .nil) (fun _ _ i1 i2 hc => .cons (i1 (Bool.and_eq_true_iff.mp hc).1) (i2 (Bool.and_eq_true_iff.mp hc).2)) r
theorem RVs.toC {g g' : Gh} (hz : ∀ a o, g.z a = some o → g'.z a = some o) (ha : ∀ k a, k < 2 → g.ad k = some a → g'.ad k = some a) {vs : List Value} {xs : List AV} (r : RVs g vs xs) : AV.closedL xs = true → RVs g' vs xs :=
  RVs.rec (motive_1 := fun v x _ => x.closed = true → RV g' v x) (motive_2 := fun vs xs _ => AV.closedL xs = true → RVs g' vs xs) (fun _ => .non) (fun b _ => .bool b) (fun i t _ => .int i t) (fun s t _ => .str s t) (fun h1 _ ih hc => .tup (hz _ _ h1) (ih hc)) (fun h1 _ ih hc => .lst (hz _ _ h1) (ih hc)) (fun h hc => .ref (ha _ _ (of_decide_eq_true hc) h)) (fun h1 h2 hc => .ins (ha _ _ (of_decide_eq_true hc) h1) (hz _ _ h2)) (fun h1 h2 _ => .flt (hz _ _ h1) (h2.mono hz)) (fun _ => .nil) (fun _ _ i1 i2 hc => .cons (i1 (Bool.and_eq_true_iff.mp hc).1) (i2 (Bool.and_eq_true_iff.mp hc).2)) r

noncomputable def Cell.ok : Cell → Bool
  | .unborn => true
  | .dead => false
  | .lst xs => AV.closedL xs
  | .dct fs => fs.all fun p => p.2.closed
noncomputable def gcOk (gc : List Cell) : Bool := gc.length == 2 && gc.all Cell.ok

theorem DictRep.toC {g g' : Gh} (hz : ∀ a o, g.z a = some o → g'.z a = some o) (ha : ∀ k a, k < 2 → g.ad k = some a → g'.ad k = some a) :
    ∀ {es : List DictEntry} {fs : List (Fld × AV)}, DictRep g es fs → fs.all (fun p => p.2.closed) = true → DictRep g' es fs
  | [], [], _, _ => trivial
  | e :: es, (f, a) :: fs, ⟨h1, h2, h3⟩, hc => by
    rw [List.all_cons, Bool.and_eq_true] at hc
    exact ⟨h1, h2.toC hz ha hc.1, h3.toC hz ha hc.2⟩
  | [], _ :: _, h, _ => h.elim
  | _ :: _, [], h, _ => h.elim
theorem CellOk.toC {g g' : Gh} (hz : ∀ a o, g.z a = some o → g'.z a = some o) (ha : ∀ k a, k < 2 → g.ad k = some a → g'.ad k = some a) {h h' : Heap} {a : Addr}
    (hh : ∀ o, h.get? a = some o → h'.get? a = some o) : ∀ {C : Cell}, CellOk g h a C → C.ok = true → CellOk g' h' a C
  | .unborn, _, _ => trivial
  | .dead, _, _ => trivial
  | .lst _, ⟨vs, n, h1, h2⟩, hc => ⟨vs, n, hh _ h1, h2.toC hz ha hc⟩
  | .dct _, ⟨es, n, h1, h2⟩, hc => ⟨es, n, hh _ h1, h2.toC hz ha hc⟩

/-- the ghost within a call -/
noncomputable def Gh.inC (g : Gh) (h : Heap) : Gh := { z := g.z, K := fun b => if g.ad 0 = some b ∨ g.ad 1 = some b then none else h.get? b, ad := fun k => if k < 2 then g.ad k else none }
/-- the ghost behind a call -/
noncomputable def Gh.outC (g g1 : Gh) : Gh := { z := g1.z, K := fun b => match g.K b with | some o => some o | none => g1.z b, ad := fun k => if k < 2 then g1.ad k else g.ad k }

theorem gc_mem {gc : List Cell} (h : gcOk gc = true) {k : Nat} {C : Cell} (hk : gc[k]? = some C) : C.ok = true ∧ k < 2 := by
  unfold gcOk at h
  rw [Bool.and_eq_true, beq_iff_eq] at h
  refine ⟨List.all_eq_true.mp h.2 C (List.mem_of_getElem? hk), ?_⟩
  have := (List.getElem?_eq_some_iff.mp hk).1
  lia

section
variable {c : Cx} {σ : AS} {g : Gh} {s : Shared}

theorem gc_get (σ : AS) {k : Nat} (hk : k < 2) : σ.gc[k]? = σ.cells[k]? := by unfold AS.gc; rw [List.getElem?_take]; simp [hk]

/-- the two shared cells: where they lie -/
theorem Inv.shared (I : Inv c g σ s) (hgc : gcOk σ.gc = true) {k : Nat} {b : Addr} (hk : k < 2) (h : g.ad k = some b) : ∃ C, σ.cells[k]? = some C ∧ C.live = true ∧ g.K b = none ∧ g.z b = none ∧ b ≠ c.L := by
  have hlen : σ.gc.length = 2 := by unfold gcOk at hgc; rw [Bool.and_eq_true, beq_iff_eq] at hgc; exact hgc.1
  have hk2 : k < σ.gc.length := by lia
  have hC : σ.cells[k]? = some (σ.gc[k]'hk2) := by rw [← gc_get σ hk]; exact List.getElem?_eq_getElem hk2
  obtain ⟨q1, _⟩ := gc_mem hgc (List.getElem?_eq_getElem hk2)
  revert hC q1
  generalize σ.gc[k] = C
  intro hC q1
  cases hl : C.live with
  | true =>
    obtain ⟨a, p1, p2, p3, _⟩ := I.cells k C hC hl
    rw [h] at p1; cases p1
    exact ⟨C, hC, hl, p2, I.zK _ p2, p3⟩
  | false =>
    cases C with
    | unborn => rw [I.adU k hC] at h; cases h
    | dead => cases q1
    | lst _ => cases hl
    | dct _ => cases hl

theorem inC_K (I : Inv c g σ s) (hgc : gcOk σ.gc = true) {b : Addr} {o : Obj} (hb : s.heap.get? b = some o) (h : g.K b ≠ none ∨ b = c.L ∨ (∃ k C, 2 ≤ k ∧ σ.cells[k]? = some C ∧ C.live = true ∧ g.ad k = some b)) : (g.inC s.heap).K b = some o := by
  show (if g.ad 0 = some b ∨ g.ad 1 = some b then none else s.heap.get? b) = some o
  rw [if_neg]
  · exact hb
  · have key : ∀ k, k < 2 → g.ad k = some b → False := by
      intro k hk hkb
      obtain ⟨C, hC, hl, p2, _, p3⟩ := I.shared hgc hk hkb
      rcases h with h | h | ⟨j, D, hj, hD, hlD, hjb⟩
      · exact h p2
      · exact p3 h
      · have := I.inj k j b C D hC hl hD hlD hkb hjb; lia
    rintro (h0 | h0)
    · exact key 0 (by decide) h0
    · exact key 1 (by decide) h0

theorem enter_inv (I : Inv c g σ s) (hk : c.env.scope.kind = .function) (hf : c.env.frame = some c.L) (hgc : gcOk σ.gc = true) {n : Nat} {env : Env} {L : Addr} {nm : List Str} {A : Around} {vars : List (Option AV)} {h₀ : Heap} {t : Nat} {m : Str → Option Value}
    (hL : s.heap.get? L = none) (kp : ∀ b o, s.heap.get? b = some o → h₀.get? b = some o) (hns : h₀.Ns L m)
    (hv : ∀ (i : Nat) (x : Str) (a : AV), nm[i]? = some x → vars[i]? = some (some a) → ∃ v, m x = some v ∧ RV (g.inC s.heap) v a) :
    Inv ⟨c.W, n, env, L, nm, A, c.env :: c.outer, c.os⟩ (g.inC s.heap) ⟨vars, σ.gc⟩ { s with heap := h₀, toks := t } where
  kept := fun b o e => by
    have e' : (if g.ad 0 = some b ∨ g.ad 1 = some b then none else s.heap.get? b) = some o := e
    split at e'
    · cases e'
    · exact ⟨o, kp _ _ e', .inl rfl⟩
  zin := fun b o e => kp _ _ (I.zin b o e)
  zK := fun b e => by
    have e' : (if g.ad 0 = some b ∨ g.ad 1 = some b then none else s.heap.get? b) = none := e
    show g.z b = none
    split at e'
    · rename_i h
      rcases h with h | h
      · exact (I.shared hgc (by decide) h).choose_spec.2.2.2.1
      · exact (I.shared hgc (by decide) h).choose_spec.2.2.2.1
    · cases hz : g.z b with
      | none => rfl
      | some o => rw [I.zin b o hz] at e'; cases e'
  base := I.base
  loc := ⟨m, hns, hv⟩
  KL := by
    show (if g.ad 0 = some L ∨ g.ad 1 = some L then none else s.heap.get? L) = none
    split
    · rfl
    · exact hL
  cells := fun k C hC hl => by
    obtain ⟨q1, q2⟩ := gc_mem hgc hC
    have hC' : σ.cells[k]? = some C := by rw [← gc_get σ q2]; exact hC
    obtain ⟨a, p1, p2, p3, p4⟩ := I.cells k C hC' hl
    refine ⟨a, ?_, ?_, ?_, p4.toC (g := g) (g' := g.inC s.heap) (fun _ _ e => e) (fun j b hj e => ?_) (fun o e => kp _ _ e) q1⟩
    · show (if k < 2 then g.ad k else none) = some a
      rw [if_pos q2]; exact p1
    · show (if g.ad 0 = some a ∨ g.ad 1 = some a then none else s.heap.get? a) = none
      rw [if_pos]
      have : k = 0 ∨ k = 1 := by lia
      rcases this with rfl | rfl
      · exact .inl p1
      · exact .inr p1
    · rintro rfl
      obtain ⟨o, ho⟩ := p4.there hl
      rw [hL] at ho; cases ho
    · show (if j < 2 then g.ad j else none) = some b
      rw [if_pos hj]; exact e
  inj := fun i j b Ci Cj e1 l1 e2 l2 a1 a2 => by
    have h1 := (gc_mem hgc e1).2
    have h2 := (gc_mem hgc e2).2
    have a1' : (if i < 2 then g.ad i else none) = some b := a1
    have a2' : (if j < 2 then g.ad j else none) = some b := a2
    rw [if_pos h1] at a1'
    rw [if_pos h2] at a2'
    have e1' : σ.cells[i]? = some Ci := by rw [← gc_get σ h1]; exact e1
    have e2' : σ.cells[j]? = some Cj := by rw [← gc_get σ h2]; exact e2
    exact I.inj i j b Ci Cj e1' l1 e2' l2 a1' a2'
  adU := fun k e => by
    show (if k < 2 then g.ad k else none) = none
    split
    · rename_i h
      refine I.adU k ?_
      rw [← gc_get σ h]; exact e
    · rfl
  adN := fun k hk => by
    have hlen : σ.gc.length = 2 := by unfold gcOk at hgc; rw [Bool.and_eq_true, beq_iff_eq] at hgc; exact hgc.1
    show (if k < 2 then g.ad k else none) = none
    rw [if_neg (by show ¬ k < 2; have : σ.gc.length ≤ k := hk; lia)]
  outer := fun env' he => by
    rcases List.mem_cons.mp he with rfl | he
    · obtain ⟨m', hm', _⟩ := I.loc
      have hns' := hm'
      obtain ⟨o, es, ep, ho, hd, _⟩ := hns'
      refine ⟨by rw [hk]; decide, c.L, o, hf, ⟨I.zK _ I.KL, ?_⟩, kp _ _ ho, fun vs q => by rw [hd] at q; cases q⟩
      rw [inC_K I hgc ho (.inr (.inl rfl))]; exact Option.some_ne_none _
    · obtain ⟨h1, L', o, h2, h3, h4, h5⟩ := I.outer env' he
      refine ⟨h1, L', o, h2, ⟨h3.1, ?_⟩, kp _ _ h4, h5⟩
      rw [inC_K I hgc h4 (.inl h3.2)]; exact Option.some_ne_none _
  gens := I.gens
  os := I.os
  adAt := fun k a e => by
    have e' : (if k < 2 then g.ad k else none) = some a := e
    split at e'
    · obtain ⟨o, ho⟩ := I.adAt k a e'; exact ⟨o, kp _ _ ho⟩
    · cases e'
  adK := fun k a e h => by
    have e' : (if k < 2 then g.ad k else none) = some a := e
    split at e'
    · rename_i hk2
      have h' : (if g.ad 0 = some a ∨ g.ad 1 = some a then none else s.heap.get? a) ≠ none := h
      rw [if_pos] at h'
      · exact absurd rfl h'
      · have : k = 0 ∨ k = 1 := by lia
        rcases this with rfl | rfl
        · exact .inl e'
        · exact .inr e'
    · cases e'

variable {c1 : Cx} {g1 : Gh} {σ1 : AS} {s1 : Shared}

theorem outC_RV {v : Value} {a : AV} (r : RV g1 v a) (hc : a.closed = true) : RV (g.outC g1) v a := r.toC (g := g1) (g' := g.outC g1) (fun _ _ e => e) (fun k b hk e => by show (if k < 2 then g1.ad k else g.ad k) = some b; rw [if_pos hk]; exact e) hc

theorem leave_le (I : Inv c g σ s) (hgc : gcOk σ.gc = true) (le : (g.inC s.heap).le g1) : g.le (g.outC g1) where
  z := fun a o e => le.z a o e
  K := fun a o e => by show (match g.K a with | some o => some o | none => g1.z a) = some o; rw [e]
  ad := fun k a e => by
    show (if k < 2 then g1.ad k else g.ad k) = some a
    split
    · rename_i hk
      refine le.ad k a ?_
      show (if k < 2 then g.ad k else none) = some a
      rw [if_pos hk]; exact e
    · exact e
  new := fun a h1 h2 => by
    refine le.new a h1 ?_
    cases hk : g.K a with
    | none => exact absurd hk h2
    | some o =>
      obtain ⟨o', ho', _⟩ := I.kept a o hk
      rw [inC_K I hgc ho' (.inl h2)]; exact Option.some_ne_none _

/-- what stood at the call stands behind it -/
theorem leave_kept (I : Inv c g σ s) (hgc : gcOk σ.gc = true) (le : (g.inC s.heap).le g1) (I1 : Inv c1 g1 σ1 s1) (ho1 : c1.outer = c.env :: c.outer) (hf : c.env.frame = some c.L) {b : Addr} {o : Obj} (hb : s.heap.get? b = some o)
    (h : g.K b ≠ none ∨ b = c.L ∨ (∃ k C, 2 ≤ k ∧ σ.cells[k]? = some C ∧ C.live = true ∧ g.ad k = some b)) : ∃ o', s1.heap.get? b = some o' ∧ (o' = o ∨ ((b = c.L ∨ ∃ env ∈ c.outer, env.frame = some b) ∧ ∃ sl, o' = { o with slots := sl })) := by
  obtain ⟨o', h1, h2⟩ := I1.kept b o (le.K b o (inC_K I hgc hb h))
  refine ⟨o', h1, ?_⟩
  rcases h2 with h2 | ⟨⟨env, he, hfe⟩, h3⟩
  · exact .inl h2
  · refine .inr ⟨?_, h3⟩
    rw [ho1] at he
    rcases List.mem_cons.mp he with rfl | he
    · rw [hf] at hfe; cases hfe; exact .inl rfl
    · exact .inr ⟨env, he, hfe⟩

theorem leave_inv (I : Inv c g σ s) (hf : c.env.frame = some c.L) (hgc : gcOk σ.gc = true) (le : (g.inC s.heap).le g1) (I1 : Inv c1 g1 σ1 s1) (ho1 : c1.outer = c.env :: c.outer) (hW : c1.W = c.W) (hos : c1.os = c.os) (hgc1 : gcOk σ1.gc = true) :
    Inv c (g.outC g1) (σ.setG σ1.gc) s1 := by
  have L := leave_le I hgc le
  have len1 : σ1.gc.length = 2 := by unfold gcOk at hgc1; rw [Bool.and_eq_true, beq_iff_eq] at hgc1; exact hgc1.1
  have len0 : σ.gc.length = 2 := by unfold gcOk at hgc; rw [Bool.and_eq_true, beq_iff_eq] at hgc; exact hgc.1
  have clen : 2 ≤ σ.cells.length := by unfold AS.gc at len0; rw [List.length_take] at len0; lia
  have sameF : ∀ b, (g.K b ≠ none ∨ b = c.L ∨ (∃ k C, 2 ≤ k ∧ σ.cells[k]? = some C ∧ C.live = true ∧ g.ad k = some b)) → ∀ o, s.heap.get? b = some o → g1.K b ≠ none := by
    intro b h o hb
    rw [le.K b o (inC_K I hgc hb h)]; exact Option.some_ne_none _
  have zL : g1.z c.L = none := by
    obtain ⟨m, ⟨o, es, ep, ho, hd, _⟩, _⟩ := I.loc
    refine le.new c.L (I.zK _ I.KL) ?_
    rw [inC_K I hgc ho (.inr (.inl rfl))]; exact Option.some_ne_none _
  have cellAt : ∀ k C, (σ.setG σ1.gc).cells[k]? = some C → (k < 2 ∧ σ1.cells[k]? = some C ∧ C.ok = true) ∨ (2 ≤ k ∧ σ.cells[k]? = some C) := by
    intro k C h
    have h' : (σ1.gc ++ σ.cells.drop 2)[k]? = some C := h
    by_cases hk : k < 2
    · rw [List.getElem?_append_left (by lia)] at h'
      exact .inl ⟨hk, by rw [← gc_get σ1 hk]; exact h', (gc_mem hgc1 h').1⟩
    · rw [List.getElem?_append_right (by lia), len1, List.getElem?_drop] at h'
      refine .inr ⟨by lia, ?_⟩
      rwa [show 2 + (k - 2) = k by lia] at h'
  have oldK : ∀ {k : Nat} {a : Addr} {C : Cell}, 2 ≤ k → σ.cells[k]? = some C → C.live = true → g.ad k = some a → g1.K a ≠ none := by
    intro k a C hk hC hl ha
    obtain ⟨a', p1, p2, p3, p4⟩ := I.cells k C hC hl
    rw [ha] at p1; cases p1
    obtain ⟨o, ho⟩ := p4.there hl
    exact sameF a (.inr (.inr ⟨k, C, hk, hC, hl, ha⟩)) o ho
  refine ⟨fun b o e => ?_, I1.zin, fun b e => ?_, fun b o e => L.z _ _ (I.base b o e), ?_, ?_, fun k C hC hl => ?_, fun i j b Ci Cj e1 l1 e2 l2 a1 a2 => ?_, fun k e => ?_, fun k hk => ?_, fun env he => ?_, I1.gens, I1.os.trans hos, fun k a e => ?_, fun k a e h => ?_⟩
  · have e' : (match g.K b with | some o => some o | none => g1.z b) = some o := e
    cases hk : g.K b with
    | none => rw [hk] at e'; exact ⟨o, I1.zin b o e', .inl rfl⟩
    | some o2 =>
      rw [hk] at e'; cases e'
      obtain ⟨o', h1, h2⟩ := I.kept b o hk
      obtain ⟨o'', h3, h4⟩ := leave_kept I hgc le I1 ho1 hf h1 (.inl (by rw [hk]; exact Option.some_ne_none _))
      refine ⟨o'', h3, h2.trans ?_⟩
      rcases h4 with h4 | ⟨h4 | h4, h5⟩
      · exact .inl h4
      · rw [h4, I.KL] at hk; cases hk
      · exact .inr ⟨h4, h5⟩
  · have e' : (match g.K b with | some o => some o | none => g1.z b) = none := e
    show g1.z b = none
    cases hk : g.K b with
    | none => rw [hk] at e'; exact e'
    | some o => rw [hk] at e'; cases e'
  · obtain ⟨m, ⟨o, es, ep, ho, hd, r⟩, h2⟩ := I.loc
    obtain ⟨o', h3, h4⟩ := leave_kept I hgc le I1 ho1 hf ho (.inr (.inl rfl))
    refine ⟨m, ⟨o', es, ep, h3, ?_, r⟩, fun i x a h5 h6 => ?_⟩
    · rcases h4 with rfl | ⟨_, sl, rfl⟩
      · exact hd
      · exact hd
    · obtain ⟨v, q1, q2⟩ := h2 i x a h5 h6
      exact ⟨v, q1, q2.le L⟩
  · show (match g.K c.L with | some o => some o | none => g1.z c.L) = none
    rw [I.KL]; exact zL
  · rcases cellAt k C hC with ⟨hk, hC1, hok⟩ | ⟨hk, hC0⟩
    · obtain ⟨a, p1, p2, p3, p4⟩ := I1.cells k C hC1 hl
      have gK : g.K a = none := by
        cases hk' : g.K a with
        | none => rfl
        | some o =>
          obtain ⟨o', ho', _⟩ := I.kept a o hk'
          exact absurd p2 (sameF a (.inl (by rw [hk']; exact Option.some_ne_none _)) o' ho')
      refine ⟨a, ?_, ?_, ?_, p4.toC (g := g1) (g' := g.outC g1) (fun _ _ e => e) (fun j b hj e => ?_) (fun _ e => e) hok⟩
      · show (if k < 2 then g1.ad k else g.ad k) = some a
        rw [if_pos hk]; exact p1
      · show (match g.K a with | some o => some o | none => g1.z a) = none
        rw [gK]; exact I1.zK _ p2
      · rintro rfl
        obtain ⟨m, ⟨o, es, ep, ho, hd, _⟩, _⟩ := I.loc
        exact sameF _ (.inr (.inl rfl)) o ho p2
      · show (if j < 2 then g1.ad j else g.ad j) = some b
        rw [if_pos hj]; exact e
    · obtain ⟨a, p1, p2, p3, p4⟩ := I.cells k C hC0 hl
      obtain ⟨o, ho⟩ := p4.there hl
      have hrel : g.K a ≠ none ∨ a = c.L ∨ (∃ k C, 2 ≤ k ∧ σ.cells[k]? = some C ∧ C.live = true ∧ g.ad k = some a) := .inr (.inr ⟨k, C, hk, hC0, hl, p1⟩)
      refine ⟨a, ?_, ?_, p3, p4.mono L.z L.ad fun o2 e => ?_⟩
      · show (if k < 2 then g1.ad k else g.ad k) = some a
        rw [if_neg (by lia)]; exact p1
      · show (match g.K a with | some o => some o | none => g1.z a) = none
        rw [p2]
        refine le.new a (I.zK _ p2) ?_
        rw [inC_K I hgc ho hrel]; exact Option.some_ne_none _
      · obtain ⟨o', h3, h4⟩ := leave_kept I hgc le I1 ho1 hf e hrel
        rcases h4 with rfl | ⟨h4 | h4, _⟩
        · exact h3
        · exact absurd h4 p3
        · exact absurd p2 (I.frs_outer h4).2
  · have a1' : (if i < 2 then g1.ad i else g.ad i) = some b := a1
    have a2' : (if j < 2 then g1.ad j else g.ad j) = some b := a2
    rcases cellAt i Ci e1 with ⟨hi, hCi, _⟩ | ⟨hi, hCi⟩ <;> rcases cellAt j Cj e2 with ⟨hj, hCj, _⟩ | ⟨hj, hCj⟩
    · rw [if_pos hi] at a1'; rw [if_pos hj] at a2'
      exact I1.inj i j b Ci Cj hCi l1 hCj l2 a1' a2'
    · rw [if_pos hi] at a1'; rw [if_neg (by lia)] at a2'
      obtain ⟨a, p1, p2, _⟩ := I1.cells i Ci hCi l1
      rw [a1'] at p1; cases p1
      exact absurd p2 (oldK hj hCj l2 a2')
    · rw [if_neg (by lia)] at a1'; rw [if_pos hj] at a2'
      obtain ⟨a, p1, p2, _⟩ := I1.cells j Cj hCj l2
      rw [a2'] at p1; cases p1
      exact absurd p2 (oldK hi hCi l1 a1')
    · rw [if_neg (by lia)] at a1' a2'
      exact I.inj i j b Ci Cj hCi l1 hCj l2 a1' a2'
  · show (if k < 2 then g1.ad k else g.ad k) = none
    rcases cellAt k _ e with ⟨hk, hC1, _⟩ | ⟨hk, hC0⟩
    · rw [if_pos hk]; exact I1.adU k hC1
    · rw [if_neg (by lia)]; exact I.adU k hC0
  · have hk' : (σ1.gc ++ σ.cells.drop 2).length ≤ k := hk
    rw [List.length_append, len1, List.length_drop] at hk'
    show (if k < 2 then g1.ad k else g.ad k) = none
    rw [if_neg (by lia)]; exact I.adN k (by lia)
  · obtain ⟨h1, L', o, h2, h3, h4, h5⟩ := I.outer env he
    obtain ⟨o', h6, h7⟩ := leave_kept I hgc le I1 ho1 hf h4 (.inl h3.2)
    refine ⟨h1, L', o', h2, ⟨?_, ?_⟩, h6, fun vs q => ?_⟩
    · refine le.new L' h3.1 ?_
      rw [inC_K I hgc h4 (.inl h3.2)]; exact Option.some_ne_none _
    · show (match g.K L' with | some o => some o | none => g1.z L') ≠ none
      cases hk : g.K L' with
      | none => exact absurd hk h3.2
      | some o => exact Option.some_ne_none _
    · rcases h7 with rfl | ⟨_, sl, rfl⟩
      · exact h5 vs q
      · exact h5 vs q
  · have e' : (if k < 2 then g1.ad k else g.ad k) = some a := e
    split at e'
    · exact I1.adAt k a e'
    · obtain ⟨o, ho⟩ := I.adAt k a e'
      by_cases h01 : g.ad 0 = some a ∨ g.ad 1 = some a
      · rcases h01 with h0 | h0
        · exact I1.adAt 0 a (le.ad 0 a (by show (if 0 < 2 then g.ad 0 else none) = some a; rw [if_pos (by decide)]; exact h0))
        · exact I1.adAt 1 a (le.ad 1 a (by show (if 1 < 2 then g.ad 1 else none) = some a; rw [if_pos (by decide)]; exact h0))
      · obtain ⟨o', h1, _⟩ := I1.kept a o (le.K a o (by show (if g.ad 0 = some a ∨ g.ad 1 = some a then none else s.heap.get? a) = some o; rw [if_neg h01]; exact ho))
        exact ⟨o', h1⟩
  · have e' : (if k < 2 then g1.ad k else g.ad k) = some a := e
    have h' : (match g.K a with | some o => some o | none => g1.z a) ≠ none := h
    show g1.z a ≠ none
    cases hk : g.K a with
    | none => rw [hk] at h'; exact h'
    | some o =>
      split at e'
      · obtain ⟨o', ho', _⟩ := I.kept a o hk
        exact I1.adK k a e' (sameF a (.inl (by rw [hk]; exact Option.some_ne_none _)) o' ho')
      · have := I.adK k a e' (by rw [hk]; exact Option.some_ne_none _)
        cases hz : g.z a with
        | none => exact absurd hz this
        | some oz => rw [le.z a oz hz]; exact Option.some_ne_none _

theorem leave_fly (I : Inv c g σ s) (hf : c.env.frame = some c.L) (hgc : gcOk σ.gc = true) (le : (g.inC s.heap).le g1) (I1 : Inv c1 g1 σ1 s1) {e : Addr} {φ : Phi} (F : FlyN c1 g1 s1.heap e φ .none) : FlyAt c (g.outC g1) s1.heap e φ := by
  obtain ⟨T, ⟨q1, q2, q3, o, vs, q4, q5, q6, q7⟩, ⟨b1, b2, b3, b4, b5⟩⟩ := F
  have key : ∀ b, g1.K b = none → (∀ k, g1.ad k ≠ some b) → (g.outC g1).K b = none ∧ b ≠ c.L ∧ ∀ k, (g.outC g1).ad k ≠ some b := by
    intro b hK had
    have n01 : ¬ (g.ad 0 = some b ∨ g.ad 1 = some b) := by
      rintro (h | h)
      · exact had 0 (le.ad 0 b (by show (if 0 < 2 then g.ad 0 else none) = some b; rw [if_pos (by decide)]; exact h))
      · exact had 1 (le.ad 1 b (by show (if 1 < 2 then g.ad 1 else none) = some b; rw [if_pos (by decide)]; exact h))
    have hno : s.heap.get? b = none := by
      cases h : s.heap.get? b with
      | none => rfl
      | some o =>
        have := le.K b o (by show (if g.ad 0 = some b ∨ g.ad 1 = some b then none else s.heap.get? b) = some o; rw [if_neg n01]; exact h)
        rw [hK] at this; cases this
    refine ⟨?_, ?_, fun k h => ?_⟩
    · show (match g.K b with | some o => some o | none => g1.z b) = none
      rw [I.no_K hno]; exact I1.zK _ hK
    · rintro rfl
      obtain ⟨m, ⟨o, _, _, ho, _⟩, _⟩ := I.loc
      rw [hno] at ho; cases ho
    · have h' : (if k < 2 then g1.ad k else g.ad k) = some b := h
      split at h'
      · exact had k h'
      · obtain ⟨o, ho⟩ := I.adAt k b h'; rw [hno] at ho; cases ho
  obtain ⟨k1, k2, k3⟩ := key e q1 q3
  obtain ⟨j1, j2, j3⟩ := key T b2 b4
  exact .inr ⟨T, .none, ⟨k1, k2, k3, o, vs, q4, q5, q6, q7⟩, ⟨b1, j1, j2, j3, b5⟩, .inl rfl⟩
end
end Mine
end

-- E26
section
open PySem PySem.W PyProof.Rows
set_option linter.unusedVariables false
set_option maxRecDepth 100000
namespace Mine

structure Row where
  addr : Addr
  fd : FuncData
  nm : List Str
  np : Nat
  cs : CSs

noncomputable def fnGood (fd : FuncData) (nm : List Str) (np : Nat) : Bool :=
  fd.scope.kind == .function && !fd.scope.isCoroutine && !fd.scope.isGenerator && fd.scope.names.all (fun x => x.2 != .cell) && nm.all (fun x => fd.scope.names.lookup x == some .local && x != ("__debug__" : Str)) &&
  decide nm.Nodup && decide (np ≤ nm.length) && fd.globals == mainGlobals && fd.builtins == builtinsNs

structure RowOk (r : Row) : Prop where
  look : ∀ P, (KF P).lookup r.addr = some ⟨.type "function", none, .func r.fd, #[]⟩
  code : ∀ P, codeIn (KF P) r.fd.code r.fd.qualname = true
  body : ∃ b, r.fd.body = .stmts b ∧ chkSs ⟨r.nm, r.fd.scope⟩ r.cs b = true
  good : fnGood r.fd r.nm r.np = true

theorem lookup_none {nm : List Str} {vs : List Value} {x : Str} : x ∉ nm → ((nm.zip vs).reverse).lookup x = none := by
  induction nm generalizing vs with
  | nil => intro _; rfl
  | cons y nm ih =>
    intro h
    cases vs with
    | nil => rfl
    | cons v vs =>
      rw [List.zip_cons_cons, List.reverse_cons, List.lookup_append, ih (fun q => h (.tail _ q))]
      show (match x == y with | true => some v | false => none) = none
      have : (x == y) = false := beq_eq_false_iff_ne.mpr fun q => h (q ▸ .head _)
      rw [this]
theorem lookup_zip : ∀ {nm : List Str} {vs : List Value} {i : Nat} {x : Str} {v : Value}, nm.Nodup → nm[i]? = some x → vs[i]? = some v → ((nm.zip vs).reverse).lookup x = some v
  | [], _, _, _, _, _, h, _ => by simp at h
  | _ :: _, [], _, _, _, _, _, h => by simp at h
  | y :: nm, w :: vs, 0, x, v, hn, hx, hv => by
    simp at hx hv
    subst hx hv
    rw [List.zip_cons_cons, List.reverse_cons, List.lookup_append, lookup_none (List.nodup_cons.mp hn).1]
    show (match y == y with | true => some w | false => none) = some w
    rw [beq_self_eq_true]
  | y :: nm, w :: vs, i + 1, x, v, hn, hx, hv => by
    rw [List.zip_cons_cons, List.reverse_cons, List.lookup_append, lookup_zip (i := i) (List.nodup_cons.mp hn).2 (by simpa using hx) (by simpa using hv)]
    rfl

noncomputable def finV (fl : AF) : AV := match fl with | .ret v => v | _ => .non

section
variable (rowOf : Addr → Option Row)
noncomputable def PhiN : Nat → Spec1
  | 0, _, _, _, _, _ => False
  | n + 1, f, xs, gc, Q, X => gcOk gc = true ∧ (if f = tokC then (match xs, gc with
        | [x], [c0, .unborn] => Q (.ins 1) [c0, .dct [(.codes, x), (.at, .int 0), (.origin, .int 0)]]
        | _, _ => False)
      else match rowOf f with
        | some r => xs.length = r.np ∧ wpSs (PhiN n) r.cs ⟨xs.map some ++ List.replicate (r.nm.length - r.np) none, gc⟩ (fun fl σ => (finV fl).closed = true ∧ gcOk σ.gc = true ∧ Q (finV fl) σ.gc) (fun φ σ => gcOk σ.gc = true ∧ X φ σ.gc)
        | none => False)
end

noncomputable def Lev (rowOf : Addr → Option Row) (n : Nat) : Prop := ∀ c, CxOk c → c.n = n → c.A.handled = none → CallsOk (PhiN rowOf n) c

section
variable {c : Cx} {σ : AS} {g : Gh} {s : Shared}

theorem call_row {rowOf : Addr → Option Row} {n : Nat} (lev : Lev rowOf n) {r : Row} (ro : RowOk r) (ok : CxOk c) {A' : Around} (hA1 : A'.handled = none) (hA2 : A'.frames = c.A.frames) (hA3 : A'.depth + 10 * n + 12 < recursionLimit) (hA4 : A'.units + 20 * n + 30 < cLine)
    {vs ws : List Value} {xs : List AV} (I : Inv c g σ s) (hgc : gcOk σ.gc = true) (rv : RVs g ws xs) (hc : AV.closedL xs = true) (hlen : xs.length = r.np) (hb : BindsTo s r.fd ⟨vs, []⟩ ((r.nm.take r.np).zip ws))
    {Q : AV → AS → Prop} {X : Phi → AS → Prop} {P0 : AF → AS → Prop} {X0 : Phi → AS → Prop}
    (hw : wpSs (PhiN rowOf n) r.cs ⟨xs.map some ++ List.replicate (r.nm.length - r.np) none, σ.gc⟩ P0 X0)
    (hP : ∀ fl σ1, P0 fl σ1 → (finV fl).closed = true ∧ gcOk σ1.gc = true ∧ Q (finV fl) (σ.setG σ1.gc)) (hX0 : ∀ φ σ1, X0 φ σ1 → gcOk σ1.gc = true ∧ X φ (σ.setG σ1.gc))
    {R : Result → Shared → Prop} (hok : Ok RV c g Q (fun v s' => R (.ok (.ret v)) s')) (hbad : Bad c g X (fun e s' => R (.error e) s')) : codeAny c.M A' (.call (.ref r.addr) ⟨vs, []⟩) R s := by
  have hg := ro.good
  unfold fnGood at hg
  simp only [Bool.and_eq_true, beq_iff_eq, Bool.not_eq_true', decide_eq_true_eq, List.all_eq_true, bne_iff_ne, ne_eq] at hg
  obtain ⟨⟨⟨⟨⟨⟨⟨⟨g1, g2⟩, g3⟩, g4⟩, g5⟩, g6⟩, g7⟩, g8⟩, g9⟩ := hg
  obtain ⟨b, hbody, hchk⟩ := ro.body
  have hlw : ws.length = r.np := rv.length.trans hlen
  refine codeAny_call_def (fd := r.fd) (body := b) (binds := (r.nm.take r.np).zip ws) (by lia) (I.KIn _ _ (ro.look _)) rfl I.lim (codeRec_of I.KIn (ro.code _)) hbody hb (fun x hx => g4 x hx) (fun x hx => ?_) (fun h₀ hns kp => ?_) g2 g3 g1
  · have : x.1 ∈ r.nm.take r.np := (List.of_mem_zip hx).1
    exact (g5 x.1 (List.mem_of_mem_take this)).1
  · have hnoL : s.heap.get? s.heap.objs.size = none := by
      cases h : s.heap.get? s.heap.objs.size with
      | none => rfl
      | some o => exact absurd (Heap.lt_size h) (Nat.lt_irrefl _)
    have ok1 : CxOk ⟨c.W, n, callEnv r.fd s.heap.objs.size r.addr, s.heap.objs.size, r.nm, A'.deeper (callEnv r.fd s.heap.objs.size r.addr), c.env :: c.outer, c.os⟩ :=
      ⟨g1, rfl, rfl, g8, g9, Around.frames_deeper (hA2.trans ok.fr), by show A'.depth + 1 + 10 * n + 10 < recursionLimit; lia, by show A'.units + 3 + 20 * n + 20 < cLine; lia, g6,
        fun x hx => ⟨(g5 x hx).1, beq_eq_false_iff_ne.mpr (g5 x hx).2⟩⟩
    have hh1 : (A'.deeper (callEnv r.fd s.heap.objs.size r.addr)).handled = none := hA1
    have I1 := enter_inv (n := n) (env := callEnv r.fd s.heap.objs.size r.addr) (nm := r.nm) (A := A'.deeper (callEnv r.fd s.heap.objs.size r.addr)) (vars := xs.map some ++ List.replicate (r.nm.length - r.np) none) (t := s.toks + ((r.nm.take r.np).zip ws).length)
      I ok.kind ok.frm hgc hnoL kp hns (fun i x a hx ha => by
        have hi : i < xs.length := by
          by_cases h : i < (xs.map some).length
          · simpa using h
          · rw [List.getElem?_append_right (by lia)] at ha
            have := List.mem_of_getElem? ha
            rw [List.mem_replicate] at this
            cases this.2
        rw [List.getElem?_append_left (by simpa using hi), List.getElem?_map] at ha
        have ha' : xs[i]? = some a := by
          cases h : xs[i]? with
          | none => rw [h] at ha; cases ha
          | some y => rw [h] at ha; cases ha; rfl
        obtain ⟨v, hv, rva⟩ := rv.get ha'
        have hx' : (r.nm.take r.np)[i]? = some x := by rw [List.getElem?_take_of_lt (by lia)]; exact hx
        refine ⟨v, lookup_zip (List.Nodup.sublist (List.take_sublist _ _) g6) hx' hv, ?_⟩
        have hcl : a.closed = true := by
          have : ∀ {xs : List AV} {i : Nat}, AV.closedL xs = true → xs[i]? = some a → a.closed = true := by
            intro xs
            induction xs with
            | nil => intro i _ h; simp at h
            | cons y ys ih =>
              intro i h h2
              have h' : (y.closed && AV.closedL ys) = true := h
              rw [Bool.and_eq_true] at h'
              cases i with
              | zero => simp at h2; rw [← h2]; exact h'.1
              | succ i => exact ih h'.2 (by simpa using h2)
          exact this hc ha'
        exact rva.toC (g := g) (g' := g.inC s.heap) (fun _ _ e => e) (fun k b hk e => by show (if k < 2 then g.ad k else none) = some b; rw [if_pos hk]; exact e) hcl)
    have B := sndSs ok1 (lev _ ok1 rfl hh1) hh1 r.cs b hchk _ _ _ hw _ _ (fun f s' => R (.ok (.ret (match f with | .ret v => v | _ => .none))) s')
      (fun e s' => wpAny c.M (A'.deeper (callEnv r.fd s.heap.objs.size r.addr)) (leaving (callEnv r.fd s.heap.objs.size r.addr) e) (fun _ s'' => R (.error e) s'') (fun e' s'' => R (.error e') s'') s') I1
    refine B (fun f af σ1 g1 s1 le1 J1 rf q => ?_) (fun e φ σ1 g1 s1 le1 J1 F hX => ?_)
    · obtain ⟨q1, q2, q3⟩ := hP _ _ q
      have J := leave_inv I ok.frm hgc le1 J1 rfl rfl rfl q2
      refine hok _ (finV af) _ _ _ (leave_le I hgc le1) J ?_ q3
      cases f with
      | next =>
        cases af with
        | next => exact .non
        | _ => cases rf
      | brk =>
        cases af with
        | brk => exact .non
        | _ => cases rf
      | ret v =>
        cases af with
        | ret a => exact outC_RV rf q1
        | _ => cases rf
      | cont => cases af <;> cases rf
    · have hX := hX0 _ _ hX
      refine fly_leaving ok1 J1 F fun s2 J2 F2 => ?_
      have J := leave_inv I ok.frm hgc le1 J2 rfl rfl rfl hX.1
      exact hbad e φ _ _ s2 (leave_le I hgc le1) J (leave_fly I ok.frm hgc le1 J2 F2) hX.2
end
end Mine
end

-- EF
section
open PySem PySem.W PyProof.Rows
set_option maxRecDepth 100000
namespace Mine
noncomputable def RowB (r : Row) : Prop := ∀ vs : List Value, vs.length = r.np → bindArgs r.fd ⟨vs, []⟩ = pure ((r.nm.take r.np).zip vs)
theorem rowB1 {r : Row} (h : r.np = 1) (k : ∀ a, bindArgs r.fd ⟨[a], []⟩ = pure ((r.nm.take r.np).zip [a])) : RowB r := fun vs e => by
  cases vs with
  | nil => exact Nat.noConfusion (e.trans h)
  | cons a vs => cases vs with
    | nil => exact k a
    | cons _ _ => exact Nat.noConfusion (Nat.succ.inj (e.trans h))
theorem rowB2 {r : Row} (h : r.np = 2) (k : ∀ a b, bindArgs r.fd ⟨[a, b], []⟩ = pure ((r.nm.take r.np).zip [a, b])) : RowB r := fun vs e => by
  cases vs with
  | nil => exact Nat.noConfusion (e.trans h)
  | cons a vs => cases vs with
    | nil => exact Nat.noConfusion (Nat.succ.inj (e.trans h))
    | cons b vs => cases vs with
      | nil => exact k a b
      | cons _ _ => exact Nat.noConfusion (Nat.succ.inj (Nat.succ.inj (e.trans h)))
theorem rowB3 {r : Row} (h : r.np = 3) (k : ∀ a b c, bindArgs r.fd ⟨[a, b, c], []⟩ = pure ((r.nm.take r.np).zip [a, b, c])) : RowB r := fun vs e => by
  cases vs with
  | nil => exact Nat.noConfusion (e.trans h)
  | cons a vs => cases vs with
    | nil => exact Nat.noConfusion (Nat.succ.inj (e.trans h))
    | cons b vs => cases vs with
      | nil => exact Nat.noConfusion (Nat.succ.inj (Nat.succ.inj (e.trans h)))
      | cons c vs => cases vs with
        | nil => exact k a b c
        | cons _ _ => exact Nat.noConfusion (Nat.succ.inj (Nat.succ.inj (Nat.succ.inj (e.trans h))))
noncomputable def r_is_layout : Row := ⟨53, f_is_layout, n_is_layout, 1, c_is_layout⟩
theorem o_is_layout : RowOk r_is_layout := ⟨fun _ => by kernel_rfl, fun _ => by kernel_rfl, ⟨_, rfl, k_is_layout⟩, by decide +kernel⟩
theorem b_is_layout : RowB r_is_layout := rowB1 rfl fun _ => by kernel_rfl
noncomputable def r_is_digit : Row := ⟨60, f_is_digit, n_is_digit, 1, c_is_digit⟩
theorem o_is_digit : RowOk r_is_digit := ⟨fun _ => by kernel_rfl, fun _ => by kernel_rfl, ⟨_, rfl, k_is_digit⟩, by decide +kernel⟩
theorem b_is_digit : RowB r_is_digit := rowB1 rfl fun _ => by kernel_rfl
noncomputable def r_is_small : Row := ⟨67, f_is_small, n_is_small, 1, c_is_small⟩
theorem o_is_small : RowOk r_is_small := ⟨fun _ => by kernel_rfl, fun _ => by kernel_rfl, ⟨_, rfl, k_is_small⟩, by decide +kernel⟩
theorem b_is_small : RowB r_is_small := rowB1 rfl fun _ => by kernel_rfl
noncomputable def r_is_capital : Row := ⟨74, f_is_capital, n_is_capital, 1, c_is_capital⟩
theorem o_is_capital : RowOk r_is_capital := ⟨fun _ => by kernel_rfl, fun _ => by kernel_rfl, ⟨_, rfl, k_is_capital⟩, by decide +kernel⟩
theorem b_is_capital : RowB r_is_capital := rowB1 rfl fun _ => by kernel_rfl
noncomputable def r_is_alnum : Row := ⟨81, f_is_alnum, n_is_alnum, 1, c_is_alnum⟩
theorem o_is_alnum : RowOk r_is_alnum := ⟨fun _ => by kernel_rfl, fun _ => by kernel_rfl, ⟨_, rfl, k_is_alnum⟩, by decide +kernel⟩
theorem b_is_alnum : RowB r_is_alnum := rowB1 rfl fun _ => by kernel_rfl
noncomputable def r_is_symbol : Row := ⟨88, f_is_symbol, n_is_symbol, 1, c_is_symbol⟩
theorem o_is_symbol : RowOk r_is_symbol := ⟨fun _ => by kernel_rfl, fun _ => by kernel_rfl, ⟨_, rfl, k_is_symbol⟩, by decide +kernel⟩
theorem b_is_symbol : RowB r_is_symbol := rowB1 rfl fun _ => by kernel_rfl
noncomputable def r_is_quotable : Row := ⟨95, f_is_quotable, n_is_quotable, 1, c_is_quotable⟩
theorem o_is_quotable : RowOk r_is_quotable := ⟨fun _ => by kernel_rfl, fun _ => by kernel_rfl, ⟨_, rfl, k_is_quotable⟩, by decide +kernel⟩
theorem b_is_quotable : RowB r_is_quotable := rowB1 rfl fun _ => by kernel_rfl
noncomputable def r_digit_value : Row := ⟨102, f_digit_value, n_digit_value, 1, c_digit_value⟩
theorem o_digit_value : RowOk r_digit_value := ⟨fun _ => by kernel_rfl, fun _ => by kernel_rfl, ⟨_, rfl, k_digit_value⟩, by decide +kernel⟩
theorem b_digit_value : RowB r_digit_value := rowB1 rfl fun _ => by kernel_rfl
noncomputable def r_codes_text : Row := ⟨107, f_codes_text, n_codes_text, 1, c_codes_text⟩
theorem o_codes_text : RowOk r_codes_text := ⟨fun _ => by kernel_rfl, fun _ => by kernel_rfl, ⟨_, rfl, k_codes_text⟩, by decide +kernel⟩
theorem b_codes_text : RowB r_codes_text := rowB1 rfl fun _ => by kernel_rfl
noncomputable def r_simple_escape : Row := ⟨114, f_simple_escape, n_simple_escape, 1, c_simple_escape⟩
theorem o_simple_escape : RowOk r_simple_escape := ⟨fun _ => by kernel_rfl, fun _ => by kernel_rfl, ⟨_, rfl, k_simple_escape⟩, by decide +kernel⟩
theorem b_simple_escape : RowB r_simple_escape := rowB1 rfl fun _ => by kernel_rfl
noncomputable def r_numeral_base : Row := ⟨121, f_numeral_base, n_numeral_base, 1, c_numeral_base⟩
theorem o_numeral_base : RowOk r_numeral_base := ⟨fun _ => by kernel_rfl, fun _ => by kernel_rfl, ⟨_, rfl, k_numeral_base⟩, by decide +kernel⟩
theorem b_numeral_base : RowB r_numeral_base := rowB1 rfl fun _ => by kernel_rfl
noncomputable def r_Tokenizer_code_at : Row := ⟨143, f_Tokenizer_code_at, n_Tokenizer_code_at, 2, c_Tokenizer_code_at⟩
theorem o_Tokenizer_code_at : RowOk r_Tokenizer_code_at := ⟨fun _ => by kernel_rfl, fun _ => by kernel_rfl, ⟨_, rfl, k_Tokenizer_code_at⟩, by decide +kernel⟩
theorem b_Tokenizer_code_at : RowB r_Tokenizer_code_at := rowB2 rfl fun _ _ => by kernel_rfl
noncomputable def r_Tokenizer_place : Row := ⟨150, f_Tokenizer_place, n_Tokenizer_place, 2, c_Tokenizer_place⟩
theorem o_Tokenizer_place : RowOk r_Tokenizer_place := ⟨fun _ => by kernel_rfl, fun _ => by kernel_rfl, ⟨_, rfl, k_Tokenizer_place⟩, by decide +kernel⟩
theorem b_Tokenizer_place : RowB r_Tokenizer_place := rowB2 rfl fun _ _ => by kernel_rfl
noncomputable def r_Tokenizer_next : Row := ⟨164, f_Tokenizer_next, n_Tokenizer_next, 1, c_Tokenizer_next⟩
theorem o_Tokenizer_next : RowOk r_Tokenizer_next := ⟨fun _ => by kernel_rfl, fun _ => by kernel_rfl, ⟨_, rfl, k_Tokenizer_next⟩, by decide +kernel⟩
theorem b_Tokenizer_next : RowB r_Tokenizer_next := rowB1 rfl fun _ => by kernel_rfl
noncomputable def r_Tokenizer_skip_clause : Row := ⟨171, f_Tokenizer_skip_clause, n_Tokenizer_skip_clause, 1, c_Tokenizer_skip_clause⟩
theorem o_Tokenizer_skip_clause : RowOk r_Tokenizer_skip_clause := ⟨fun _ => by kernel_rfl, fun _ => by kernel_rfl, ⟨_, rfl, k_Tokenizer_skip_clause⟩, by decide +kernel⟩
theorem b_Tokenizer_skip_clause : RowB r_Tokenizer_skip_clause := rowB1 rfl fun _ => by kernel_rfl
noncomputable def r_Tokenizer_skip_layout : Row := ⟨178, f_Tokenizer_skip_layout, n_Tokenizer_skip_layout, 1, c_Tokenizer_skip_layout⟩
theorem o_Tokenizer_skip_layout : RowOk r_Tokenizer_skip_layout := ⟨fun _ => by kernel_rfl, fun _ => by kernel_rfl, ⟨_, rfl, k_Tokenizer_skip_layout⟩, by decide +kernel⟩
theorem b_Tokenizer_skip_layout : RowB r_Tokenizer_skip_layout := rowB1 rfl fun _ => by kernel_rfl
noncomputable def r_Tokenizer_skip_row : Row := ⟨185, f_Tokenizer_skip_row, n_Tokenizer_skip_row, 1, c_Tokenizer_skip_row⟩
theorem o_Tokenizer_skip_row : RowOk r_Tokenizer_skip_row := ⟨fun _ => by kernel_rfl, fun _ => by kernel_rfl, ⟨_, rfl, k_Tokenizer_skip_row⟩, by decide +kernel⟩
theorem b_Tokenizer_skip_row : RowB r_Tokenizer_skip_row := rowB1 rfl fun _ => by kernel_rfl
noncomputable def r_Tokenizer_skip_remark : Row := ⟨192, f_Tokenizer_skip_remark, n_Tokenizer_skip_remark, 1, c_Tokenizer_skip_remark⟩
theorem o_Tokenizer_skip_remark : RowOk r_Tokenizer_skip_remark := ⟨fun _ => by kernel_rfl, fun _ => by kernel_rfl, ⟨_, rfl, k_Tokenizer_skip_remark⟩, by decide +kernel⟩
theorem b_Tokenizer_skip_remark : RowB r_Tokenizer_skip_remark := rowB1 rfl fun _ => by kernel_rfl
noncomputable def r_Tokenizer_word : Row := ⟨199, f_Tokenizer_word, n_Tokenizer_word, 2, c_Tokenizer_word⟩
theorem o_Tokenizer_word : RowOk r_Tokenizer_word := ⟨fun _ => by kernel_rfl, fun _ => by kernel_rfl, ⟨_, rfl, k_Tokenizer_word⟩, by decide +kernel⟩
theorem b_Tokenizer_word : RowB r_Tokenizer_word := rowB2 rfl fun _ _ => by kernel_rfl
noncomputable def r_Tokenizer_symbol : Row := ⟨206, f_Tokenizer_symbol, n_Tokenizer_symbol, 2, c_Tokenizer_symbol⟩
theorem o_Tokenizer_symbol : RowOk r_Tokenizer_symbol := ⟨fun _ => by kernel_rfl, fun _ => by kernel_rfl, ⟨_, rfl, k_Tokenizer_symbol⟩, by decide +kernel⟩
theorem b_Tokenizer_symbol : RowB r_Tokenizer_symbol := rowB2 rfl fun _ _ => by kernel_rfl
noncomputable def r_Tokenizer_ends_at : Row := ⟨213, f_Tokenizer_ends_at, n_Tokenizer_ends_at, 2, c_Tokenizer_ends_at⟩
theorem o_Tokenizer_ends_at : RowOk r_Tokenizer_ends_at := ⟨fun _ => by kernel_rfl, fun _ => by kernel_rfl, ⟨_, rfl, k_Tokenizer_ends_at⟩, by decide +kernel⟩
theorem b_Tokenizer_ends_at : RowB r_Tokenizer_ends_at := rowB2 rfl fun _ _ => by kernel_rfl
noncomputable def r_Tokenizer_numeral : Row := ⟨220, f_Tokenizer_numeral, n_Tokenizer_numeral, 2, c_Tokenizer_numeral⟩
theorem o_Tokenizer_numeral : RowOk r_Tokenizer_numeral := ⟨fun _ => by kernel_rfl, fun _ => by kernel_rfl, ⟨_, rfl, k_Tokenizer_numeral⟩, by decide +kernel⟩
theorem b_Tokenizer_numeral : RowB r_Tokenizer_numeral := rowB2 rfl fun _ _ => by kernel_rfl
noncomputable def r_Tokenizer_digits : Row := ⟨227, f_Tokenizer_digits, n_Tokenizer_digits, 3, c_Tokenizer_digits⟩
theorem o_Tokenizer_digits : RowOk r_Tokenizer_digits := ⟨fun _ => by kernel_rfl, fun _ => by kernel_rfl, ⟨_, rfl, k_Tokenizer_digits⟩, by decide +kernel⟩
theorem b_Tokenizer_digits : RowB r_Tokenizer_digits := rowB3 rfl fun _ _ _ => by kernel_rfl
noncomputable def r_Tokenizer_character : Row := ⟨234, f_Tokenizer_character, n_Tokenizer_character, 2, c_Tokenizer_character⟩
theorem o_Tokenizer_character : RowOk r_Tokenizer_character := ⟨fun _ => by kernel_rfl, fun _ => by kernel_rfl, ⟨_, rfl, k_Tokenizer_character⟩, by decide +kernel⟩
theorem b_Tokenizer_character : RowB r_Tokenizer_character := rowB2 rfl fun _ _ => by kernel_rfl
noncomputable def r_Tokenizer_quoted : Row := ⟨241, f_Tokenizer_quoted, n_Tokenizer_quoted, 3, c_Tokenizer_quoted⟩
theorem o_Tokenizer_quoted : RowOk r_Tokenizer_quoted := ⟨fun _ => by kernel_rfl, fun _ => by kernel_rfl, ⟨_, rfl, k_Tokenizer_quoted⟩, by decide +kernel⟩
theorem b_Tokenizer_quoted : RowB r_Tokenizer_quoted := rowB3 rfl fun _ _ _ => by kernel_rfl
noncomputable def r_Tokenizer_escape : Row := ⟨248, f_Tokenizer_escape, n_Tokenizer_escape, 1, c_Tokenizer_escape⟩
theorem o_Tokenizer_escape : RowOk r_Tokenizer_escape := ⟨fun _ => by kernel_rfl, fun _ => by kernel_rfl, ⟨_, rfl, k_Tokenizer_escape⟩, by decide +kernel⟩
theorem b_Tokenizer_escape : RowB r_Tokenizer_escape := rowB1 rfl fun _ => by kernel_rfl
noncomputable def r_Tokenizer_abandon : Row := ⟨255, f_Tokenizer_abandon, n_Tokenizer_abandon, 2, c_Tokenizer_abandon⟩
theorem o_Tokenizer_abandon : RowOk r_Tokenizer_abandon := ⟨fun _ => by kernel_rfl, fun _ => by kernel_rfl, ⟨_, rfl, k_Tokenizer_abandon⟩, by decide +kernel⟩
theorem b_Tokenizer_abandon : RowB r_Tokenizer_abandon := rowB2 rfl fun _ _ => by kernel_rfl
noncomputable def r_law_pool : Row := ⟨269, f_law_pool, n_law_pool, 1, c_law_pool⟩
theorem o_law_pool : RowOk r_law_pool := ⟨fun _ => by kernel_rfl, fun _ => by kernel_rfl, ⟨_, rfl, k_law_pool⟩, by decide +kernel⟩
theorem b_law_pool : RowB r_law_pool := rowB1 rfl fun _ => by kernel_rfl
noncomputable def r_law_pick : Row := ⟨276, f_law_pick, n_law_pick, 2, c_law_pick⟩
theorem o_law_pick : RowOk r_law_pick := ⟨fun _ => by kernel_rfl, fun _ => by kernel_rfl, ⟨_, rfl, k_law_pick⟩, by decide +kernel⟩
theorem b_law_pick : RowB r_law_pick := rowB2 rfl fun _ _ => by kernel_rfl
noncomputable def r_law_ords : Row := ⟨281, f_law_ords, n_law_ords, 1, c_law_ords⟩
theorem o_law_ords : RowOk r_law_ords := ⟨fun _ => by kernel_rfl, fun _ => by kernel_rfl, ⟨_, rfl, k_law_ords⟩, by decide +kernel⟩
theorem b_law_ords : RowB r_law_ords := rowB1 rfl fun _ => by kernel_rfl
noncomputable def r_law_figures : Row := ⟨288, f_law_figures, n_law_figures, 3, c_law_figures⟩
theorem o_law_figures : RowOk r_law_figures := ⟨fun _ => by kernel_rfl, fun _ => by kernel_rfl, ⟨_, rfl, k_law_figures⟩, by decide +kernel⟩
theorem b_law_figures : RowB r_law_figures := rowB3 rfl fun _ _ _ => by kernel_rfl
noncomputable def r_law_code : Row := ⟨295, f_law_code, n_law_code, 1, c_law_code⟩
theorem o_law_code : RowOk r_law_code := ⟨fun _ => by kernel_rfl, fun _ => by kernel_rfl, ⟨_, rfl, k_law_code⟩, by decide +kernel⟩
theorem b_law_code : RowB r_law_code := rowB1 rfl fun _ => by kernel_rfl
noncomputable def r_law_plain : Row := ⟨302, f_law_plain, n_law_plain, 2, c_law_plain⟩
theorem o_law_plain : RowOk r_law_plain := ⟨fun _ => by kernel_rfl, fun _ => by kernel_rfl, ⟨_, rfl, k_law_plain⟩, by decide +kernel⟩
theorem b_law_plain : RowB r_law_plain := rowB2 rfl fun _ _ => by kernel_rfl
noncomputable def r_law_escape : Row := ⟨309, f_law_escape, n_law_escape, 2, c_law_escape⟩
theorem o_law_escape : RowOk r_law_escape := ⟨fun _ => by kernel_rfl, fun _ => by kernel_rfl, ⟨_, rfl, k_law_escape⟩, by decide +kernel⟩
theorem b_law_escape : RowB r_law_escape := rowB2 rfl fun _ _ => by kernel_rfl
noncomputable def r_law_quoted : Row := ⟨316, f_law_quoted, n_law_quoted, 2, c_law_quoted⟩
theorem o_law_quoted : RowOk r_law_quoted := ⟨fun _ => by kernel_rfl, fun _ => by kernel_rfl, ⟨_, rfl, k_law_quoted⟩, by decide +kernel⟩
theorem b_law_quoted : RowB r_law_quoted := rowB2 rfl fun _ _ => by kernel_rfl
noncomputable def r_law_word : Row := ⟨323, f_law_word, n_law_word, 2, c_law_word⟩
theorem o_law_word : RowOk r_law_word := ⟨fun _ => by kernel_rfl, fun _ => by kernel_rfl, ⟨_, rfl, k_law_word⟩, by decide +kernel⟩
theorem b_law_word : RowB r_law_word := rowB2 rfl fun _ _ => by kernel_rfl
noncomputable def r_law_number : Row := ⟨330, f_law_number, n_law_number, 2, c_law_number⟩
theorem o_law_number : RowOk r_law_number := ⟨fun _ => by kernel_rfl, fun _ => by kernel_rfl, ⟨_, rfl, k_law_number⟩, by decide +kernel⟩
theorem b_law_number : RowB r_law_number := rowB2 rfl fun _ _ => by kernel_rfl
noncomputable def r_law_token : Row := ⟨335, f_law_token, n_law_token, 2, c_law_token⟩
theorem o_law_token : RowOk r_law_token := ⟨fun _ => by kernel_rfl, fun _ => by kernel_rfl, ⟨_, rfl, k_law_token⟩, by decide +kernel⟩
theorem b_law_token : RowB r_law_token := rowB2 rfl fun _ _ => by kernel_rfl
noncomputable def r_law_gap : Row := ⟨342, f_law_gap, n_law_gap, 3, c_law_gap⟩
theorem o_law_gap : RowOk r_law_gap := ⟨fun _ => by kernel_rfl, fun _ => by kernel_rfl, ⟨_, rfl, k_law_gap⟩, by decide +kernel⟩
theorem b_law_gap : RowB r_law_gap := rowB3 rfl fun _ _ _ => by kernel_rfl
noncomputable def r_law_place : Row := ⟨349, f_law_place, n_law_place, 2, c_law_place⟩
theorem o_law_place : RowOk r_law_place := ⟨fun _ => by kernel_rfl, fun _ => by kernel_rfl, ⟨_, rfl, k_law_place⟩, by decide +kernel⟩
theorem b_law_place : RowB r_law_place := rowB2 rfl fun _ _ => by kernel_rfl
noncomputable def r_law_faults : Row := ⟨356, f_law_faults, n_law_faults, 1, c_law_faults⟩
theorem o_law_faults : RowOk r_law_faults := ⟨fun _ => by kernel_rfl, fun _ => by kernel_rfl, ⟨_, rfl, k_law_faults⟩, by decide +kernel⟩
theorem b_law_faults : RowB r_law_faults := rowB1 rfl fun _ => by kernel_rfl
noncomputable def r_law : Row := ⟨361, f_law, n_law, 1, c_law⟩
theorem o_law : RowOk r_law := ⟨fun _ => by kernel_rfl, fun _ => by kernel_rfl, ⟨_, rfl, k_law⟩, by decide +kernel⟩
theorem b_law : RowB r_law := rowB1 rfl fun _ => by kernel_rfl
noncomputable def r_Tokenizer_init : Row := ⟨136, f_Tokenizer_init, n_Tokenizer_init, 3, c_Tokenizer_init⟩
theorem o_Tokenizer_init : RowOk r_Tokenizer_init := ⟨fun _ => by kernel_rfl, fun _ => by kernel_rfl, ⟨_, rfl, k_Tokenizer_init⟩, by decide +kernel⟩
noncomputable def rows : List Row := [r_is_layout, r_is_digit, r_is_small, r_is_capital, r_is_alnum, r_is_symbol, r_is_quotable, r_digit_value, r_codes_text, r_simple_escape, r_numeral_base, r_Tokenizer_code_at, r_Tokenizer_place, r_Tokenizer_next, r_Tokenizer_skip_clause, r_Tokenizer_skip_layout, r_Tokenizer_skip_row, r_Tokenizer_skip_remark, r_Tokenizer_word, r_Tokenizer_symbol, r_Tokenizer_ends_at, r_Tokenizer_numeral, r_Tokenizer_digits, r_Tokenizer_character, r_Tokenizer_quoted, r_Tokenizer_escape, r_Tokenizer_abandon, r_law_pool, r_law_pick, r_law_ords, r_law_figures, r_law_code, r_law_plain, r_law_escape, r_law_quoted, r_law_word, r_law_number, r_law_token, r_law_gap, r_law_place, r_law_faults, r_law]
noncomputable def rowOf (f : Addr) : Option Row := rows.find? (fun r => r.addr == f)
theorem rows_ok : ∀ r ∈ rows, RowOk r ∧ RowB r := by
  unfold rows
  repeat (first | exact List.forall_mem_nil _ | (refine List.forall_mem_cons.mpr ⟨?_, ?_⟩; (first | exact ⟨o_is_layout, b_is_layout⟩ | exact ⟨o_is_digit, b_is_digit⟩ | exact ⟨o_is_small, b_is_small⟩ | exact ⟨o_is_capital, b_is_capital⟩ | exact ⟨o_is_alnum, b_is_alnum⟩ | exact ⟨o_is_symbol, b_is_symbol⟩ | exact ⟨o_is_quotable, b_is_quotable⟩ | exact ⟨o_digit_value, b_digit_value⟩ | exact ⟨o_codes_text, b_codes_text⟩ | exact ⟨o_simple_escape, b_simple_escape⟩ | exact ⟨o_numeral_base, b_numeral_base⟩ | exact ⟨o_Tokenizer_code_at, b_Tokenizer_code_at⟩ | exact ⟨o_Tokenizer_place, b_Tokenizer_place⟩ | exact ⟨o_Tokenizer_next, b_Tokenizer_next⟩ | exact ⟨o_Tokenizer_skip_clause, b_Tokenizer_skip_clause⟩ | exact ⟨o_Tokenizer_skip_layout, b_Tokenizer_skip_layout⟩ | exact ⟨o_Tokenizer_skip_row, b_Tokenizer_skip_row⟩ | exact ⟨o_Tokenizer_skip_remark, b_Tokenizer_skip_remark⟩ | exact ⟨o_Tokenizer_word, b_Tokenizer_word⟩ | exact ⟨o_Tokenizer_symbol, b_Tokenizer_symbol⟩ | exact ⟨o_Tokenizer_ends_at, b_Tokenizer_ends_at⟩ | exact ⟨o_Tokenizer_numeral, b_Tokenizer_numeral⟩ | exact ⟨o_Tokenizer_digits, b_Tokenizer_digits⟩ | exact ⟨o_Tokenizer_character, b_Tokenizer_character⟩ | exact ⟨o_Tokenizer_quoted, b_Tokenizer_quoted⟩ | exact ⟨o_Tokenizer_escape, b_Tokenizer_escape⟩ | exact ⟨o_Tokenizer_abandon, b_Tokenizer_abandon⟩ | exact ⟨o_law_pool, b_law_pool⟩ | exact ⟨o_law_pick, b_law_pick⟩ | exact ⟨o_law_ords, b_law_ords⟩ | exact ⟨o_law_figures, b_law_figures⟩ | exact ⟨o_law_code, b_law_code⟩ | exact ⟨o_law_plain, b_law_plain⟩ | exact ⟨o_law_escape, b_law_escape⟩ | exact ⟨o_law_quoted, b_law_quoted⟩ | exact ⟨o_law_word, b_law_word⟩ | exact ⟨o_law_number, b_law_number⟩ | exact ⟨o_law_token, b_law_token⟩ | exact ⟨o_law_gap, b_law_gap⟩ | exact ⟨o_law_place, b_law_place⟩ | exact ⟨o_law_faults, b_law_faults⟩ | exact ⟨o_law, b_law⟩)))
theorem w_is_layout : rowOf 53 = some r_is_layout := by rfl
theorem w_is_digit : rowOf 60 = some r_is_digit := by rfl
theorem w_is_small : rowOf 67 = some r_is_small := by rfl
theorem w_is_capital : rowOf 74 = some r_is_capital := by rfl
theorem w_is_alnum : rowOf 81 = some r_is_alnum := by rfl
theorem w_is_symbol : rowOf 88 = some r_is_symbol := by rfl
theorem w_is_quotable : rowOf 95 = some r_is_quotable := by rfl
theorem w_digit_value : rowOf 102 = some r_digit_value := by rfl
theorem w_codes_text : rowOf 107 = some r_codes_text := by rfl
theorem w_simple_escape : rowOf 114 = some r_simple_escape := by rfl
theorem w_numeral_base : rowOf 121 = some r_numeral_base := by rfl
theorem w_Tokenizer_code_at : rowOf 143 = some r_Tokenizer_code_at := by rfl
theorem w_Tokenizer_place : rowOf 150 = some r_Tokenizer_place := by rfl
theorem w_Tokenizer_next : rowOf 164 = some r_Tokenizer_next := by rfl
theorem w_Tokenizer_skip_clause : rowOf 171 = some r_Tokenizer_skip_clause := by rfl
theorem w_Tokenizer_skip_layout : rowOf 178 = some r_Tokenizer_skip_layout := by rfl
theorem w_Tokenizer_skip_row : rowOf 185 = some r_Tokenizer_skip_row := by rfl
theorem w_Tokenizer_skip_remark : rowOf 192 = some r_Tokenizer_skip_remark := by rfl
theorem w_Tokenizer_word : rowOf 199 = some r_Tokenizer_word := by rfl
theorem w_Tokenizer_symbol : rowOf 206 = some r_Tokenizer_symbol := by rfl
theorem w_Tokenizer_ends_at : rowOf 213 = some r_Tokenizer_ends_at := by rfl
theorem w_Tokenizer_numeral : rowOf 220 = some r_Tokenizer_numeral := by rfl
theorem w_Tokenizer_digits : rowOf 227 = some r_Tokenizer_digits := by rfl
theorem w_Tokenizer_character : rowOf 234 = some r_Tokenizer_character := by rfl
theorem w_Tokenizer_quoted : rowOf 241 = some r_Tokenizer_quoted := by rfl
theorem w_Tokenizer_escape : rowOf 248 = some r_Tokenizer_escape := by rfl
theorem w_Tokenizer_abandon : rowOf 255 = some r_Tokenizer_abandon := by rfl
theorem w_law_pool : rowOf 269 = some r_law_pool := by rfl
theorem w_law_pick : rowOf 276 = some r_law_pick := by rfl
theorem w_law_ords : rowOf 281 = some r_law_ords := by rfl
theorem w_law_figures : rowOf 288 = some r_law_figures := by rfl
theorem w_law_code : rowOf 295 = some r_law_code := by rfl
theorem w_law_plain : rowOf 302 = some r_law_plain := by rfl
theorem w_law_escape : rowOf 309 = some r_law_escape := by rfl
theorem w_law_quoted : rowOf 316 = some r_law_quoted := by rfl
theorem w_law_word : rowOf 323 = some r_law_word := by rfl
theorem w_law_number : rowOf 330 = some r_law_number := by rfl
theorem w_law_token : rowOf 335 = some r_law_token := by rfl
theorem w_law_gap : rowOf 342 = some r_law_gap := by rfl
theorem w_law_place : rowOf 349 = some r_law_place := by rfl
theorem w_law_faults : rowOf 356 = some r_law_faults := by rfl
theorem w_law : rowOf 361 = some r_law := by rfl
end Mine
end

-- E27
section
open PySem PySem.W PyProof.Rows Builtin Builtin.ObjectAttr
set_option linter.unusedVariables false
set_option maxRecDepth 100000
namespace Mine

noncomputable abbrev fltBm : List Value := [.ref 24, .type "Exception", .type "BaseException", .type "object"]
theorem flt_obj (P : Params) : (KF P).lookup 44 = some (excClassObj "SyntaxFault" "SyntaxFault" 44 43 [.ref 24] fltBm true [] [] false none none (some (.ref 28)) none (some (.str "SyntaxFault" 209)) (some (.str "SyntaxFault" 217)) (some (.bool true)) "Exception.__new__") := by kernel_rfl
noncomputable def clausNs (o : Option Obj) : Option (Array DictEntry × Nat) := match o with
  | some ⟨_, _, .dict es n, _⟩ => some (es, n)
  | _ => none
theorem flt_tail {P : Params} {h : Heap} (X : (KF P).In h) : OwnTail h [.type "Exception", .type "BaseException", .type "object"] fltBm := by
  obtain ⟨o, ho, es, ep, hd, hk, hf⟩ : ∃ o, (KF P).lookup 23 = some o ∧ ∃ es ep, o.data = .dict es ep ∧ StrKeys es ∧ nsFind es "__init__" = none := by
    refine ⟨_, (by kernel_rfl : (KF P).lookup 23 = some ⟨.type "dict", none, .dict #[PySem.DictEntry.mk (PySem.PyData.keyHash P (PySem.Str.ofString "__module__")) (PySem.Value.str (PySem.Str.ofString "__module__") 196) (PySem.Value.str (PySem.Str.ofString "clausemill.symbols") 187), PySem.DictEntry.mk (PySem.PyData.keyHash P (PySem.Str.ofString "__firstlineno__")) (PySem.Value.str (PySem.Str.ofString "__firstlineno__") 200) (PySem.Value.int 2 199), PySem.DictEntry.mk (PySem.PyData.keyHash P (PySem.Str.ofString "__static_attributes__")) (PySem.Value.str (PySem.Str.ofString "__static_attributes__") 201) (PySem.Value.ref 22), PySem.DictEntry.mk (PySem.PyData.keyHash P (PySem.Str.ofString "__weakref__")) (PySem.Value.str (PySem.Str.ofString "__weakref__") 203) (PySem.Value.ref 25), PySem.DictEntry.mk (PySem.PyData.keyHash P (PySem.Str.ofString "__doc__")) (PySem.Value.str (PySem.Str.ofString "__doc__") 204) PySem.Value.none] 3, #[]⟩), _, _, rfl, ?_, ?_⟩
    · intro e he
      simp at he
      rcases he with rfl | rfl | rfl | rfl | rfl <;> exact ⟨_, _, rfl⟩
    · kernel_rfl
  obtain ⟨oA, cd, hA, hAd, hN⟩ : ∃ oA cd, (KF P).lookup 24 = some oA ∧ oA.data = .cls cd ∧ cd.ns = 23 := ⟨_, _, (by kernel_rfl : (KF P).lookup 24 = some ⟨.type "type", none, .cls (PySem.ClassData.mk (PySem.Str.ofString "ClausemillError") [PySem.Value.type "Exception"] [PySem.Value.ref 24, PySem.Value.type "Exception", PySem.Value.type "BaseException", PySem.Value.type "object"] 23 (PySem.Str.ofString "ClausemillError") Bool.true [] [PySem.Value.ref 44] Bool.false Option.none Bool.false), #[Option.some (PySem.Value.ref 15), Option.none, Option.some (PySem.Value.str (PySem.Str.ofString "ClausemillError") 189), Option.some (PySem.Value.str (PySem.Str.ofString "ClausemillError") 197), Option.some (PySem.Value.builtin "Exception.__new__"), Option.some (PySem.Value.bool Bool.true)]⟩), rfl, rfl⟩
  obtain ⟨oc, od, odt, osl⟩ := oA
  dsimp only at hAd
  subst hAd
  exact .own (cd := cd) (X _ _ hA) (mA := nsFind es) (by rw [hN]; exact ⟨o, es, ep, X _ _ ho, hd, hk, fun _ => rfl⟩) hf .base

theorem flt_init (P : Params) : findIn (KF P) (.ref fltC) "__init__" = some (some (.ref 41)) := by kernel_rfl
theorem flt_initT (P : Params) : typeIn (KF P) (.ref 41) = some (.type "function") := by kernel_rfl
theorem flt_keep (P : Params) : keepIn (KF P) (.ref fltC) = true := by kernel_rfl

section
variable {prog : Program} {w : World} {A : Around} {E : Value → Shared → Prop} {h : Heap} {g : Array GenState} {d : Drawn} {t : Nat} {os : OsState} {P : Params}

noncomputable abbrev tupObj (rest : List Value) : Obj := { cls := .type "tuple", data := .seq rest.toArray }
noncomputable abbrev excObj (t : Addr) : Obj := { cls := .ref fltC, data := .fields #[.ref t, .none, .none, .none, .bool false, .none] }

/-- SyntaxFault(…): a new object, then its own __init__ -/
theorem flt_make (X : (KF P).In h) {rest : List Value} {Q : Value → Shared → Prop} (hrest : rest.length ≤ sizeLine)
    (hq : wpAny (model prog w) (A.under (.builtin "type.__call__" ⟨.ref fltC :: rest, []⟩)) (call (.ref 41) (.ref (h.objs.size + 1) :: rest)) (fun r s' => r = .none ∧ Q (.ref (h.objs.size + 1)) s') E
      ⟨(h.push (tupObj rest)).push (excObj h.objs.size), g, d, t, os⟩) :
    wpAny (model prog w) A (call (.ref fltC) rest) Q E ⟨h, g, d, t, os⟩ := by
  have hC : h.get? 44 = some _ := X _ _ (flt_obj P)
  have f1 := tc_lookup
  have f2 := tc_bind (.ref 44)
  have hT : (⟨h, g, d, t, os⟩ : Shared).TypeIs (.ref 44) "type" := ⟨_, hC, rfl⟩
  refine wpAny_call (codeAny_of_tree ?_)
  show wpAny _ _ (callAny (.ref 44) _) _ _ _
  repeat (any_goals (first | assumption | with_reducible refine wpAny_loadPart_at hC ?_ | wp_step))
  refine ⟨rfl, ?_⟩
  refine codeAny_call_builtin_at (Code.quiet_builtin _ (by decide +kernel)) entry_typeCall (wpAny_check_type_call_sub hC ?_)
  have Fn := F.excBase_Exception
  have T := flt_tail X
  repeat (first | with_reducible refine wpAny_loadPart_at hC ?_ | with_reducible refine wpAny_madeBy_exc hC ?_ | wp_step)
  refine codeAny_call_builtin_code (Code.quiet_builtin _ Fn.quiet) (wpAny_check_new_subU Fn (bmB := [.type "Exception", .type "BaseException", .type "object"]) (by decide) T hC ?_)
  refine codeAny_exc_new_subU Fn (by decide) Fn T hC ?_ hrest
  show wpAny _ _ _ _ _ _
  have k : ∀ b o, h.get? b = some o → ((h.push (tupObj rest)).push (excObj h.objs.size)).get? b = some o := fun b o e => Heap.get?_push_of_some _ (Heap.get?_push_of_some _ e)
  have X₁ : (KF P).In ((h.push (tupObj rest)).push (excObj h.objs.size)) := X.keeps k
  have hC₁ := k _ _ hC
  have hget : ((h.push (tupObj rest)).push (excObj h.objs.size)).get? (h.objs.size + 1) = some (excObj h.objs.size) := by heap_get
  have LT : Looks (model prog w) ((h.push (tupObj rest)).push (excObj h.objs.size)) (typeOf (.ref (h.objs.size + 1))) (.ref 44) := (Looks.ld hget).andThen .now
  have LI : Looks (model prog w) ((h.push (tupObj rest)).push (excObj h.objs.size)) (isInstance (.ref (h.objs.size + 1)) (.ref 44)) true := LT.andThen (looks_subIn X₁ (flt_sub P))
  have L1 := looks_findIn (M := model prog w) X₁ (flt_init P)
  have LB := bind_fn (M := model prog w) X₁ (.ref (h.objs.size + 1)) (flt_initT P)
  refine wpAny_bind (LI.at ?_)
  rw [if_neg (by decide)]
  refine wpAny_bind (wpAny_holding (wpAny_bind (wpAny_bind (LT.at (L1.at ?_)))))
  refine wpAny_holding (wpAny_bind (LB.at ?_))
  refine wpAny_bind (wpAny_mono hq (fun r s' hr => ?_) fun _ _ x => x)
  obtain ⟨rfl, hQ⟩ := hr
  exact wpAny_pure (wpAny_pure hQ)
end
end Mine
end

-- E28
section
open PySem PySem.W PyProof.Rows Builtin Builtin.ObjectAttr
set_option linter.unusedVariables false
set_option maxRecDepth 100000
namespace Mine

theorem flt_set (P : Params) : findIn (KF P) (.ref fltC) "__setattr__" = some (some (.builtin "object.__setattr__")) := by kernel_rfl
theorem flt_mro (P : Params) : (clsIn (KF P) fltC).map (·.mro) = some (.ref 44 :: fltBm) := by kernel_rfl
theorem flt_hasDict' (P : Params) : (clsIn (KF P) fltC).any (·.hasDict) = true := by kernel_rfl
theorem flt_isObj (P : Params) : subIn (KF P) (.ref fltC) (.type "object") = some true := by kernel_rfl

/-- an exception object with its dict -/
noncomputable def excD (od : Option Addr) (vs : Array Value) : Obj := { cls := .ref fltC, dict := od, data := .fields vs }

section
variable {prog : Program} {w : World} {A : Around} {E : Value → Shared → Prop} {P : Params}

theorem strKey_noRef {es : List DictEntry} (h : ∀ e ∈ es, ∃ n t, e.key = .str n t) : es.any (·.refKey) = false := by
  rw [List.any_eq_false]
  intro e he
  obtain ⟨n, t, hk⟩ := h e he
  unfold DictEntry.refKey; rw [hk]; simp

/-- self.x = v, of an exception object -/
theorem set_exc {s : Shared} (X : (KF w.params).In s.heap) {e : Addr} {vs : Array Value} {od : Option Addr} {es : List DictEntry} {n : Nat} {f : Fld} {v : Value} {Q : Unit → Shared → Prop} (he : s.heap.get? e = some (excD od vs))
    (hd : (∀ d, od = some d → s.heap.get? d = some (dictOf es n) ∧ d ≠ e) ∧ (od = none → es = [] ∧ n = 0)) (hes : ∀ e ∈ es, ∃ n t, e.key = .str n t) (hz : es.length ≤ 10)
    (hQ : ∀ h' t d n' hs tk, (∀ b o, b ≠ e → od ≠ some b → s.heap.get? b = some o → h'.get? b = some o) → d ≠ e → (∀ d', od = some d' → d = d') → (od = none → s.heap.get? d = none) → h'.get? e = some (excD (some d) vs) → h'.get? d = some (dictOf (putL f.name hs (.str f.name tk) v es) n') →
      Q () { s with heap := h', toks := t }) : wpAny (model prog w) A (setAttr (.ref e) f.name v) Q E s := by
  have SF := PySem.F.store_Exception
  have notcls : notCls (excD od vs) = true := rfl
  obtain ⟨hp, gg, dd, tt, oo⟩ := s
  dsimp only at X he hd hQ
  have LT : Looks (model prog w) hp (typeOf (.ref e)) (.ref fltC) := (Looks.ld he).andThen .now
  have LS := looks_findIn (M := model prog w) X (flt_set w.params)
  have LO : Looks (model prog w) hp (isInstance (.ref e) (.type "object")) true := LT.andThen (looks_subIn X (flt_isObj w.params))
  obtain ⟨cd, hcd, hmro⟩ := Option.map_eq_some_iff.mp (flt_mro w.params)
  have LM : Looks (model prog w) hp (mroOf (.ref fltC)) (.ref 44 :: fltBm) := by rw [← hmro]; exact (looks_clsIn X hcd).andThen .now
  have LA := looks_findIn (M := model prog w) X (flt_fld w.params f)
  obtain ⟨cd', hcd', hdct⟩ := any_some (flt_hasDict' w.params)
  refine wpAny_bind (wpAny_mkText (wpAny_bind (wpAny_bind (wpAny_bind (LT.at (LS.at (wpAny_holding ?_)))))))
  rw [PySem.F.store_object.slot.bind]
  refine wpAny_bind (wpAny_pure (wpAny_bind (wpAny_call ?_)))
  refine codeAny_call_builtin PySem.F.store_object.slot.plain PySem.F.store_object.entry (@check_slot (model prog w) _ _ ⟨hp, gg, dd, tt + 1, oo⟩ "object.__setattr__" "object" "__setattr__" (.ref e) [.str f.name tt, v] [] _ PySem.F.store_object.kind PySem.F.store_object.split LO (PySem.F.store_object.args (.ref e) (.str f.name tt) v) ?_)
  show wpAny _ _ (Builtin.«object.__setattr__» ⟨[.ref e, .str f.name tt, v], []⟩) _ _ _
  rw [osa_eq, refuse_eq]
  refine wpAny_bind (wpAny_bind (LT.at (wpAny_bind (LM.at ?_))))
  rw [refuseLoop_ref, refuseLoop_ref, SF.passes]
  refine wpAny_pure (wpAny_bind (LT.at (wpAny_bind (LA.at (wpAny_bind (wpAny_pure ?_))))))
  refine wpAny_bind (wpAny_pure (wpAny_bind (wpAny_bind (wpAny_loadPart he (wpAny_bind ((looks_clsIn X hcd').at ?_))))))
  rw [hdct]
  have esA : es.toArray.any (·.refKey) = false := by rw [← Array.any_toList]; exact strKey_noRef hes
  have cc : (!es.toArray.any (·.key.isStr f.name) && es.toArray.any (·.refKey)) = false := by rw [esA, Bool.and_false]
  have plen : ∀ (hs : Int) (key : Value) (es : List DictEntry), (putL f.name hs key v es).length ≤ es.length + 1 := by
    intro hs key es
    induction es with
    | nil => exact Nat.le_refl _
    | cons x r ih => unfold putL; split <;> simp <;> lia
  cases od with
  | some d =>
    obtain ⟨hd, hne⟩ := hd.1 d rfl
    refine wpAny_pure (a := some d) (wpAny_bind (wpAny_pure (wpAny_bind ?_)))
    unfold nsSet
    refine wpAny_bind (wpAny_bind (wpAny_askSetting (wpAny_pure (wpAny_bind (wpAny_mkText (wpAny_bind (wpAny_loadPart hd ?_)))))))
    dsimp only
    rw [aRefKeyMayBeTheName_at, cc]
    refine wpAny_updatePart hd ?_
    have D : (hp.update d (Obj.putName f.name (PyData.keyHash w.params f.name) (.str f.name (tt + 1)) v)).get? d = some (dictOf (putL f.name (PyData.keyHash w.params f.name) (.str f.name (tt + 1)) v es) (putN f.name es n)) := by
      rw [← putName_dict]
      exact Heap.get?_update_self _ hd (by rw [putName_dict]; rfl)
    refine wpAny_bind (wpAny_lookBehind D (pastItsLine_dict (by have := plen (PyData.keyHash w.params f.name) (.str f.name (tt + 1)) es; rw [List.size_toArray, sizeLine_eq]; lia)) ?_)
    refine wpAny_pure (wpAny_pure (wpAny_pure (hQ _ _ d _ _ _ (fun b o hb hdb hbo => ?_) hne (fun d' e' => by cases e'; rfl) (fun e' => by cases e') ?_ D)))
    · exact (Heap.get?_update_other _ _ (fun q => hdb (by rw [q]))).trans hbo
    · exact (Heap.get?_update_other _ _ hne).trans he
  | none =>
    obtain ⟨rfl, rfl⟩ := hd.2 rfl
    show wpAny _ _ (alloc { cls := .type "dict", data := .dict #[] } >>= _) _ _ _
    refine wpAny_bind (wpAny_alloc ?_)
    have hx1 : (hp.push { cls := .type "dict", data := .dict #[] }).get? e = some (excD none vs) := Heap.get?_push_of_some _ he
    have hes' : e ≠ hp.objs.size := Nat.ne_of_lt (Heap.lt_size he)
    refine wpAny_bind (wpAny_update hx1 ?_)
    refine wpAny_pure (wpAny_bind (wpAny_pure (wpAny_bind ?_)))
    have hd2 : ((hp.push { cls := .type "dict", data := .dict #[] }).update e fun o => { o with dict := some hp.objs.size }).get? hp.objs.size = some (dictOf [] 0) :=
      (Heap.get?_update_other _ _ hes').trans (Heap.get?_push_size _ rfl)
    have hx2 : ((hp.push { cls := .type "dict", data := .dict #[] }).update e fun o => { o with dict := some hp.objs.size }).get? e = some (excD (some hp.objs.size) vs) := Heap.get?_update_self _ hx1 rfl
    unfold nsSet
    refine wpAny_bind (wpAny_bind (wpAny_askSetting (wpAny_pure (wpAny_bind (wpAny_mkText (wpAny_bind (wpAny_loadPart hd2 ?_)))))))
    dsimp only
    rw [aRefKeyMayBeTheName_at, cc]
    refine wpAny_updatePart hd2 ?_
    have D : (((hp.push { cls := .type "dict", data := .dict #[] }).update e fun o => { o with dict := some hp.objs.size }).update hp.objs.size (Obj.putName f.name (PyData.keyHash w.params f.name) (.str f.name (tt + 1)) v)).get? hp.objs.size = some (dictOf (putL f.name (PyData.keyHash w.params f.name) (.str f.name (tt + 1)) v []) (putN f.name [] 0)) := by
      rw [← putName_dict]
      exact Heap.get?_update_self _ hd2 (by rw [putName_dict]; rfl)
    refine wpAny_bind (wpAny_lookBehind D (pastItsLine_dict (by have := plen (PyData.keyHash w.params f.name) (.str f.name (tt + 1)) []; rw [List.size_toArray, sizeLine_eq]; simp only [List.length_nil] at this; lia)) ?_)
    refine wpAny_pure (wpAny_pure (wpAny_pure (hQ _ _ hp.objs.size _ _ _ (fun b o hb hdb hbo => ?_) hes'.symm (fun d' e' => by cases e') (fun _ => ?_) ?_ D)))
    · have hbs : hp.objs.size ≠ b := Nat.ne_of_gt (Heap.lt_size hbo)
      exact (Heap.get?_update_other _ _ hbs).trans ((Heap.get?_update_other _ _ (Ne.symm hb)).trans (Heap.get?_push_of_some _ hbo))
    · cases h : hp.get? hp.objs.size with
      | none => rfl
      | some o => exact absurd (Heap.lt_size h) (Nat.lt_irrefl _)
    · exact (Heap.get?_update_other _ _ hes'.symm).trans hx2
end
end Mine
end

-- E29
section
open PySem PySem.W PyProof.Rows Builtin Builtin.ObjectAttr
set_option linter.unusedVariables false
set_option maxRecDepth 100000
namespace Mine

/-- an exception object under way, and a frame beside it -/
structure ExcSt (h0 h : Heap) (L e : Addr) (m : Str → Option Value) (vs : Array Value) (od : Option Addr) (es : List DictEntry) (n : Nat) : Prop where
  keeps : ∀ b o, h0.get? b = some o → h.get? b = some o
  ns : h.Ns L m
  Le : L ≠ e
  Ld : od ≠ some L
  obj : h.get? e = some (excD od vs)
  dct : (∀ d, od = some d → h.get? d = some (dictOf es n) ∧ d ≠ e) ∧ (od = none → es = [] ∧ n = 0)
  dnew : ∀ d, od = some d → h0.get? d = none
  enew : h0.get? e = none
  keys : ∀ e ∈ es, ∃ n t, e.key = .str n t

theorem putL_keys {name : Str} {hs : Int} {tk : Tok} {v : Value} : ∀ {es : List DictEntry}, (∀ e ∈ es, ∃ n t, e.key = .str n t) → ∀ e ∈ putL name hs (.str name tk) v es, ∃ n t, e.key = .str n t
  | [], _, e, he => by
    unfold putL at he
    rcases List.mem_cons.mp he with rfl | he
    · exact ⟨_, _, rfl⟩
    · cases he
  | x :: r, h, e, he => by
    unfold putL at he
    split at he
    · rcases List.mem_cons.mp he with rfl | he
      · obtain ⟨n, t, hk⟩ := h x (.head _); exact ⟨n, t, hk⟩
      · exact h e (.tail _ he)
    · rcases List.mem_cons.mp he with rfl | he
      · exact h _ (.head _)
      · exact putL_keys (fun e he => h e (.tail _ he)) e he

section
variable {prog : Program} {w : World} {A : Around} {E : Value → Shared → Prop}

theorem exc_step {h0 : Heap} {s : Shared} (X : (KF w.params).In h0) {L e : Addr} {m : Str → Option Value} {vs : Array Value} {od : Option Addr} {es : List DictEntry} {n : Nat} (S : ExcSt h0 s.heap L e m vs od es n) (hz : es.length ≤ 10)
    {fd : FuncData} {a : Addr} (hk : fd.scope.kind = .function) {x self : Str} {xp sp ap pos : Pos} {f : Fld} {v : Value} {Q : Flow → Shared → Prop}
    (hx : (callEnv fd L a).kindOf x = some .local) (hxd : (x == ("__debug__" : Str)) = false) (hs : (callEnv fd L a).kindOf self = some .local) (hsd : (self == ("__debug__" : Str)) = false) (mx : m x = some v) (ms : m self = some (.ref e))
    (hQ : ∀ h' t d n' hsh tk, ExcSt h0 h' L e m vs (some d) (putL f.name hsh (.str f.name tk) v es) n' → Q .next { s with heap := h', toks := t }) :
    wpAny (model prog w) A (exec (.Assign [.Attribute (.Name self sp) f.name ap] (.Name x xp) pos) (callEnv fd L a)) Q E s := by
  refine plainObj_wpAny_Assign_Attribute (ldc hk hx S.ns mx (ldc hk hs S.ns ms ?_ hsd) hxd)
  refine set_exc (X.keeps S.keeps) S.obj S.dct S.keys hz fun h' t d n' hsh tk k1 k2 k3 k4 k5 k6 => ?_
  obtain ⟨oL, esL, ep, hL, r⟩ := S.ns
  refine hQ h' t d n' hsh tk ⟨fun b o hb => ?_, ⟨oL, esL, ep, k1 L oL S.Le S.Ld hL, r⟩, S.Le, ?_, k5, ⟨fun d' e' => by cases e'; exact ⟨k6, k2⟩, fun e' => by cases e'⟩, fun d' e' => ?_, S.enew, putL_keys S.keys⟩
  · refine k1 b o ?_ ?_ (S.keeps b o hb)
    · rintro rfl; rw [S.enew] at hb; cases hb
    · intro q; rw [S.dnew b q] at hb; cases hb
  · intro q
    cases q
    cases hod : od with
    | none => rw [k4 hod] at hL; cases hL
    | some d' => exact S.Ld (by rw [hod, k3 d' hod])
  · cases e'
    cases hod : od with
    | none =>
      cases hh : h0.get? d with
      | none => rfl
      | some o => rw [S.keeps _ _ hh] at k4; cases k4 hod
    | some d' => rw [k3 d' hod]; exact S.dnew d' hod
end

noncomputable def initStmt (x : Str) (s : Stmt) : Bool := iS s fun s1 _ y _ z1 _ _ => s1 == ("self" : Str) && y == x && z1 == x
noncomputable def initBody (ss : List Stmt) : Bool := d4 ss fun a b c d => initStmt "kind" a && initStmt "at" b && initStmt "row" c && initStmt "column" d
theorem k_init : initBody (fBody f_SyntaxFault_init_st) = true := by decide +kernel
theorem initStmt_spec {x : Str} {s : Stmt} (h : initStmt x s = true) : ∃ sp ap xp pos, s = .Assign [.Attribute (.Name "self" sp) x ap] (.Name x xp) pos := by
  refine iS_el (M := fun s => ∃ sp ap xp pos, s = .Assign [.Attribute (.Name "self" sp) x ap] (.Name x xp) pos) h fun s1 sp y ap z1 xp pos h => ?_
  simp only [Bool.and_eq_true, beq_iff_eq] at h
  obtain ⟨⟨rfl, rfl⟩, rfl⟩ := h
  exact ⟨_, _, _, _, rfl⟩
theorem look_init (P : Params) : (KF P).lookup 41 = some ⟨.type "function", none, .func f_SyntaxFault_init, #[]⟩ := by kernel_rfl
theorem code_init (P : Params) : codeIn (KF P) f_SyntaxFault_init.code f_SyntaxFault_init.qualname = true := by kernel_rfl
theorem bind_init (a b c d e : Value) : bindArgs f_SyntaxFault_init ⟨[a, b, c, d, e], []⟩ = pure ([("self", a), ("kind", b), ("at", c), ("row", d), ("column", e)] : List (Str × Value)) := by kernel_rfl
noncomputable def initScope : Bool := f_SyntaxFault_init.scope.kind == .function && !f_SyntaxFault_init.scope.isCoroutine && !f_SyntaxFault_init.scope.isGenerator && f_SyntaxFault_init.scope.names.all (fun x => x.2 != .cell) &&
  (["self", "kind", "at", "row", "column"] : List Str).all (fun x => f_SyntaxFault_init.scope.names.lookup x == some .local)
theorem init_scope : initScope = true := by decide +kernel

section
variable {c : Cx} {σ : AS} {g : Gh} {s : Shared}

/-- SyntaxFault(kind, at, row, column) -/
theorem ev_newFlt (ok : CxOk c) {kind : Str} {at_ row col : Int} {t1 t2 t3 t4 : Tok} {Q' : Value → Shared → Prop} {E' : Value → Shared → Prop} (hd : c.A.depth + 5 < recursionLimit) (I : Inv c g σ s)
    (hQ : ∀ e g' s', g.le g' → Inv c g' σ s' → FlyP c g' s'.heap e (kind, at_, row, col) .none → Q' (.ref e) s') :
    wpAny c.M c.A (call (.ref fltC) [.str kind t1, .int at_ t2, .int row t3, .int col t4]) Q' E' s := by
  have KI := I.KIn
  have hno : ∀ b, s.heap.objs.size ≤ b → s.heap.get? b = none := fun b hb => by
    cases h : s.heap.get? b with
    | none => rfl
    | some o => exact absurd (Heap.lt_size h) (Nat.not_lt.mpr hb)
  have hlim := I.lim
  obtain ⟨hp, gg, dd, tt, oo⟩ := s
  dsimp only at KI hno hlim
  refine flt_make (P := c.W.w.params) KI (by rw [sizeLine_val]; exact Nat.le_of_lt_succ (by simp)) ?_
  have k2 : ∀ b o, hp.get? b = some o → ((hp.push (tupObj [.str kind t1, .int at_ t2, .int row t3, .int col t4])).push (excObj hp.objs.size)).get? b = some o := fun b o e => Heap.get?_push_of_some _ (Heap.get?_push_of_some _ e)
  have hget : ((hp.push (tupObj [.str kind t1, .int at_ t2, .int row t3, .int col t4])).push (excObj hp.objs.size)).get? (hp.objs.size + 1) = some (excObj hp.objs.size) := by heap_get
  have hsc := init_scope
  unfold initScope at hsc
  simp only [Bool.and_eq_true, beq_iff_eq, Bool.not_eq_true', List.all_eq_true, bne_iff_ne, ne_eq] at hsc
  obtain ⟨⟨⟨⟨g1, g2⟩, g3⟩, g4⟩, g5⟩ := hsc
  refine wpAny_call ?_
  have hdep : (c.A.under (.builtin "type.__call__" ⟨.ref fltC :: [.str kind t1, .int at_ t2, .int row t3, .int col t4], []⟩)).depth < recursionLimit := by
    show c.A.depth + 1 < recursionLimit
    lia
  have hk4 := k_init
  obtain ⟨b1, b2, b3, b4, hbd, q1, q2, q3, q4⟩ : ∃ b1 b2 b3 b4, fBody f_SyntaxFault_init_st = [b1, b2, b3, b4] ∧ initStmt "kind" b1 = true ∧ initStmt "at" b2 = true ∧ initStmt "row" b3 = true ∧ initStmt "column" b4 = true := by
    refine d4_el (M := fun z => ∃ b1 b2 b3 b4, z = [b1, b2, b3, b4] ∧ initStmt "kind" b1 = true ∧ initStmt "at" b2 = true ∧ initStmt "row" b3 = true ∧ initStmt "column" b4 = true) hk4 fun a b c d hk4 => ?_
    simp only [Bool.and_eq_true] at hk4
    exact ⟨a, b, c, d, rfl, hk4.1.1.1, hk4.1.1.2, hk4.1.2, hk4.2⟩
  refine codeAny_call_def (fd := f_SyntaxFault_init) (body := fBody f_SyntaxFault_init_st) hdep (k2 _ _ (KI _ _ (look_init _))) rfl (hlim.keeps k2) (codeRec_of (KI.keeps k2) (code_init _)) rfl (BindsTo.of_eq (bind_init _ _ _ _ _)) (fun x hx => g4 x hx) (fun x hx => ?_) (fun h₀ hns kp => ?_) g2 g3 g1
  · simp only [List.mem_cons, List.not_mem_nil, or_false] at hx
    rcases hx with rfl | rfl | rfl | rfl | rfl <;> exact g5 _ (by simp)
  · rw [hbd]
    obtain ⟨sp1, ap1, xp1, ps1, rfl⟩ := initStmt_spec q1
    obtain ⟨sp2, ap2, xp2, ps2, rfl⟩ := initStmt_spec q2
    obtain ⟨sp3, ap3, xp3, ps3, rfl⟩ := initStmt_spec q3
    obtain ⟨sp4, ap4, xp4, ps4, rfl⟩ := initStmt_spec q4
    have S0 : ExcSt hp h₀ ((hp.push (tupObj [.str kind t1, .int at_ t2, .int row t3, .int col t4])).push (excObj hp.objs.size)).objs.size (hp.objs.size + 1) _ #[.ref hp.objs.size, .none, .none, .none, .bool false, .none] none [] 0 :=
      ⟨fun b o e => kp _ _ (k2 _ _ e), hns, (by rw [Heap.size_push, Heap.size_push]; exact Nat.succ_ne_self _), (fun e => nomatch e), kp _ _ hget, ⟨(fun _ e => nomatch e), fun _ => ⟨rfl, rfl⟩⟩, (fun _ e => nomatch e), hno _ (Nat.le_succ _), fun _ h => nomatch h⟩
    have lk : ∀ x : Str, x ∈ (["self", "kind", "at", "row", "column"] : List Str) → ∀ L : Addr, (callEnv f_SyntaxFault_init L 41).kindOf x = some .local := fun x hx L => g5 x hx
    refine wpAny_execs_cons (exc_step (f := .kind) KI S0 (by simp) g1 (lk _ (by simp) _) (by decide) (lk _ (by simp) _) (by decide) rfl rfl fun h1 tk1 d1 n1 hs1 kk1 S1 => ?_)
    refine wpAny_execs_cons (exc_step (s := { heap := h1, gens := gg, drawn := dd, toks := tk1, os := oo }) (f := .at) KI S1 (by show (1 : Nat) ≤ 10; decide) g1 (lk _ (by simp) _) (by decide) (lk _ (by simp) _) (by decide) rfl rfl fun h2 tk2 d2 n2 hs2 kk2 S2 => ?_)
    refine wpAny_execs_cons (exc_step (s := { heap := h2, gens := gg, drawn := dd, toks := tk2, os := oo }) (f := .row) KI S2 (by show (2 : Nat) ≤ 10; decide) g1 (lk _ (by simp) _) (by decide) (lk _ (by simp) _) (by decide) rfl rfl fun h3 tk3 d3 n3 hs3 kk3 S3 => ?_)
    refine wpAny_execs_cons (exc_step (s := { heap := h3, gens := gg, drawn := dd, toks := tk3, os := oo }) (f := .column) KI S3 (by show (3 : Nat) ≤ 10; decide) g1 (lk _ (by simp) _) (by decide) (lk _ (by simp) _) (by decide) rfl rfl fun h4 tk4 d4 n4 hs4 kk4 S4 => ?_)
    refine wpAny_execs_nil ⟨rfl, ?_⟩
    obtain ⟨hD, hDe⟩ := S4.dct.1 d4 rfl
    obtain ⟨le, J⟩ := I.adopt (D := d4) (h' := h4) (S4.dnew d4 rfl) S4.keeps tk4 hD
    refine hQ _ _ _ le J ⟨?_, ?_, ?_, _, _, S4.obj, rfl, ⟨rfl, d4, _, _, _, rfl, rfl, Gh.add_z _ _ _, ?_⟩, rfl⟩
    · show (if _ = d4 then some _ else g.K _) = none
      rw [if_neg (Ne.symm hDe)]; exact I.no_K S4.enew
    · intro q
      obtain ⟨m, ⟨o, _, _, ho, _⟩, _⟩ := I.loc
      have : hp.get? (hp.objs.size + 1) = some o := by rw [q]; exact ho
      rw [S4.enew] at this; cases this
    · intro k hk
      obtain ⟨o, ho⟩ := I.adAt k _ hk
      have : hp.get? (hp.objs.size + 1) = some o := ho
      rw [S4.enew] at this; cases this
    · exact ⟨_, _, _, _, _, _, _, _, _, _, _, _, rfl⟩
end
end Mine
end

-- E30
section
open PySem PySem.W PyProof.Rows
set_option linter.unusedVariables false
set_option maxRecDepth 100000
namespace Mine

theorem gcOk2 {a b : Cell} (ha : a.ok = true) (hb : b.ok = true) : gcOk [a, b] = true := by
  show ([a, b].length == 2 && (a.ok && (b.ok && true))) = true
  rw [ha, hb]; rfl
theorem gcOk_len {gc : List Cell} (h : gcOk gc = true) : gc.length = 2 := by unfold gcOk at h; rw [Bool.and_eq_true, beq_iff_eq] at h; exact h.1
theorem gc_of {gc : List Cell} (h : gcOk gc = true) (vs : List (Option AV)) : (⟨vs, gc⟩ : AS).gc = gc := by
  unfold AS.gc; rw [List.take_of_length_le]; have := gcOk_len h; show gc.length ≤ 2; lia
theorem setG_gc {gc : List Cell} (h : gcOk gc = true) (σ : AS) : (σ.setG gc).gc = gc := by
  unfold AS.gc AS.setG
  have := gcOk_len h
  show (gc ++ σ.cells.drop 2).take 2 = gc
  rw [List.take_append_of_le_length (by lia), List.take_of_length_le (by lia)]

section
variable {c : Cx} {σ : AS} {g : Gh} {s : Shared}

theorem leave_flyP (I : Inv c g σ s) {c1 : Cx} {g1 : Gh} {σ1 : AS} {s1 : Shared} (le : (g.inC s.heap).le g1) (I1 : Inv c1 g1 σ1 s1) {e : Addr} {φ : Phi} {v1 : Value} (F : FlyP c1 g1 s1.heap e φ v1) : FlyP c (g.outC g1) s1.heap e φ v1 := by
  obtain ⟨q1, q2, q3, o, vs, q4, q5, q6, q7⟩ := F
  have n01 : ¬ (g.ad 0 = some e ∨ g.ad 1 = some e) := by
    rintro (h | h)
    · exact q3 0 (le.ad 0 e (by show (if 0 < 2 then g.ad 0 else none) = some e; rw [if_pos (by decide)]; exact h))
    · exact q3 1 (le.ad 1 e (by show (if 1 < 2 then g.ad 1 else none) = some e; rw [if_pos (by decide)]; exact h))
  have hno : s.heap.get? e = none := by
    cases h : s.heap.get? e with
    | none => rfl
    | some o =>
      have := le.K e o (by show (if g.ad 0 = some e ∨ g.ad 1 = some e then none else s.heap.get? e) = some o; rw [if_neg n01]; exact h)
      rw [q1] at this; cases this
  refine ⟨?_, ?_, fun k h => ?_, o, vs, q4, q5, q6, q7⟩
  · show (match g.K e with | some o => some o | none => g1.z e) = none
    rw [I.no_K hno]; exact I1.zK _ q1
  · rintro rfl
    obtain ⟨m, ⟨o, _, _, ho, _⟩, _⟩ := I.loc
    rw [hno] at ho; cases ho
  · have h' : (if k < 2 then g1.ad k else g.ad k) = some e := h
    split at h'
    · exact q3 k h'
    · obtain ⟨o, ho⟩ := I.adAt k e h'; rw [hno] at ho; cases ho

noncomputable def n_fault : List Str := ["self", "kind", "at", "row", "column"]
noncomputable def faultSc : Sc := ⟨n_fault, f_Tokenizer_fault.scope⟩
noncomputable def faultBody (ss : List Stmt) : Bool := d2 ss fun s1 s2 => fA s1 fun t1 t2 _ _ o y p v q _ => fR s2 fun f a1 a2 a3 a4 _ _ =>
    areLocs faultSc [3, 4] [t1, t2] && isLoc faultSc 0 o && y == ("place" : Str) && p.endLine == q.line && isLoc faultSc 2 v && isGlob faultSc "SyntaxFault" f && isLoc faultSc 1 a1 && isLoc faultSc 2 a2 && isLoc faultSc 3 a3 && isLoc faultSc 4 a4
theorem faultBody_el {ss : List Stmt} {M : List Stmt → Prop} (h : faultBody ss = true) (k : ∀ t1 t2 kt tp o y p v q ps f a1 a2 a3 a4 q2 ps2,
    (areLocs faultSc [3, 4] [t1, t2] && isLoc faultSc 0 o && y == ("place" : Str) && p.endLine == q.line && isLoc faultSc 2 v && isGlob faultSc "SyntaxFault" f && isLoc faultSc 1 a1 && isLoc faultSc 2 a2 && isLoc faultSc 3 a3 && isLoc faultSc 4 a4) = true →
    M [.Assign [.Tuple [t1, t2] kt tp] (.Call (.Attribute o y p) [v] [] q) ps, .Return (some (.Call f [a1, a2, a3, a4] [] q2)) ps2]) : M ss :=
  d2_el h fun s1 s2 h => fA_el (M := fun z => M [z, s2]) h fun t1 t2 kt tp o y p v q ps h => fR_el (M := fun z => M [.Assign [.Tuple [t1, t2] kt tp] (.Call (.Attribute o y p) [v] [] q) ps, z]) h fun f a1 a2 a3 a4 q2 ps2 h => k t1 t2 kt tp o y p v q ps f a1 a2 a3 a4 q2 ps2 h
theorem faultBody_el2 {S : Sc} (eS : S = faultSc) {ss : List Stmt} {M : List Stmt → Prop} (h : faultBody ss = true) (k : ∀ t1 t2 kt tp x0 p0 p x2 p2 q ps pf y1 py1 y2 py2 y3 py3 y4 py4 q2 ps2,
    areLocs S [3, 4] [t1, t2] = true → S.nm[0]? = some x0 → (p : Pos).endLine = (q : Pos).line → S.nm[2]? = some x2 → S.sc.names.lookup ("SyntaxFault" : Str) = some .globalImplicit → (("SyntaxFault" : Str) == ("__debug__" : Str)) = false → S.nm[1]? = some y1 → S.nm[2]? = some y2 → S.nm[3]? = some y3 → S.nm[4]? = some y4 →
    M [.Assign [.Tuple [t1, t2] kt tp] (.Call (.Attribute (.Name x0 p0) "place" p) [.Name x2 p2] [] q) ps, .Return (some (.Call (.Name "SyntaxFault" pf) [.Name y1 py1, .Name y2 py2, .Name y3 py3, .Name y4 py4] [] q2)) ps2]) : M ss := by
  subst eS
  refine faultBody_el h fun t1 t2 kt tp o y p va' q ps f a1 a2 a3 a4 q2 ps2 hk => ?_
  simp only [Bool.and_eq_true, beq_iff_eq] at hk
  obtain ⟨⟨⟨⟨⟨⟨⟨⟨⟨k1, k2⟩, rfl⟩, k4⟩, k5⟩, k6⟩, k7⟩, k8⟩, k9⟩, k10⟩ := hk
  obtain ⟨x0, p0, rfl, hx0⟩ := isLoc_name k2
  obtain ⟨x2, p2, rfl, hx2⟩ := isLoc_name k5
  obtain ⟨pf, rfl, hfk, hfd⟩ := isGlob_name k6
  obtain ⟨y1, py1, rfl, hy1⟩ := isLoc_name k7
  obtain ⟨y2, py2, rfl, hy2⟩ := isLoc_name k8
  obtain ⟨y3, py3, rfl, hy3⟩ := isLoc_name k9
  obtain ⟨y4, py4, rfl, hy4⟩ := isLoc_name k10
  exact k _ _ _ _ _ _ _ _ _ _ _ _ _ _ _ _ _ _ _ _ _ _ k1 hx0 k4 hx2 hfk hfd hy1 hy2 hy3 hy4
theorem k_fault : faultBody (fBody f_Tokenizer_fault_st) = true := by decide +kernel
theorem look_fault (P : Params) : (KF P).lookup 157 = some ⟨.type "function", none, .func f_Tokenizer_fault, #[]⟩ := by kernel_rfl
theorem code_fault (P : Params) : codeIn (KF P) f_Tokenizer_fault.code f_Tokenizer_fault.qualname = true := by kernel_rfl
theorem bind_fault (a b c : Value) : bindArgs f_Tokenizer_fault ⟨[a, b, c], []⟩ = pure ([("self", a), ("kind", b), ("at", c)] : List (Str × Value)) := by kernel_rfl
theorem good_fault : fnGood f_Tokenizer_fault n_fault 3 = true := by decide +kernel

theorem ev_fault {n : Nat} (lev : Lev rowOf n) (ok : CxOk c) (hn : c.n = n + 1) (hh : c.A.handled = none) {kind : Str} {at_ : Int} {X : Phi → AS → Prop}
    (hΦ : PhiN rowOf (n + 1) A_place [.ins 1, .int at_] σ.gc (fun r gc => match r with | .tup [.int row, .int col] => X (kind, at_, row, col) (σ.setG gc) | _ => False) (fun _ _ => False))
    {fs : List (Fld × AV)} (hC : (σ.cells[1]? : Option Cell) = some (.dct fs)) {v va : Value} {tk : Tok} {Q' : Value → Shared → Prop} {E' : Value → Shared → Prop} (I : Inv c g σ s) (rv : RV g v (.ins 1)) (ra : RV g va (.int at_))
    (hQ : ∀ e φ σ' g' s', g.le g' → Inv c g' σ' s' → FlyP c g' s'.heap e φ .none → X φ σ' → Q' (.ref e) s') : wpAny c.M c.A (call (.ref 157) [v, .str kind tk, va]) Q' E' s := by
  obtain ⟨hgc, hΦ⟩ := hΦ
  rw [if_neg (by decide)] at hΦ
  have hro : rowOf A_place = some r_Tokenizer_place := w_Tokenizer_place
  rw [hro] at hΦ
  obtain ⟨_, hw⟩ := hΦ
  have hw' := hw
  rw [← gc_of hgc [some (.ins 1), some (.str kind), some (.int at_), none, none]] at hw'
  obtain ⟨ta, rfl⟩ := ra.int_inv
  have hdep := ok.depth
  have hun := ok.units
  rw [hn] at hdep hun
  have hg := good_fault
  unfold fnGood at hg
  simp only [Bool.and_eq_true, beq_iff_eq, Bool.not_eq_true', decide_eq_true_eq, List.all_eq_true, bne_iff_ne, ne_eq] at hg
  obtain ⟨⟨⟨⟨⟨⟨⟨⟨g1, g2⟩, g3⟩, g4⟩, g5⟩, g6⟩, g7⟩, g8⟩, g9⟩ := hg
  refine wpAny_call ?_
  refine codeAny_call_def (fd := f_Tokenizer_fault) (body := fBody f_Tokenizer_fault_st) (by lia) (I.KIn _ _ (look_fault _)) rfl I.lim (codeRec_of I.KIn (code_fault _)) rfl (BindsTo.of_eq (bind_fault _ _ _)) (fun x hx => g4 x hx) (fun x hx => ?_) (fun h₀ hns kp => ?_) g2 g3 g1
  · simp only [List.mem_cons, List.not_mem_nil, or_false] at hx
    rcases hx with rfl | rfl | rfl <;> exact (g5 _ (by simp [n_fault])).1
  · have hnoL : s.heap.get? s.heap.objs.size = none := by
      cases h : s.heap.get? s.heap.objs.size with
      | none => rfl
      | some o => exact absurd (Heap.lt_size h) (Nat.lt_irrefl _)
    have ok1 : CxOk ⟨c.W, 0, callEnv f_Tokenizer_fault s.heap.objs.size 157, s.heap.objs.size, n_fault, c.A.deeper (callEnv f_Tokenizer_fault s.heap.objs.size 157), c.env :: c.outer, c.os⟩ :=
      ⟨g1, rfl, rfl, g8, g9, Around.frames_deeper ok.fr, by show c.A.depth + 1 + 10 * 0 + 10 < recursionLimit; lia, by show c.A.units + 3 + 20 * 0 + 20 < cLine; lia, g6, fun x hx => ⟨(g5 x hx).1, beq_eq_false_iff_ne.mpr (g5 x hx).2⟩⟩
    have in1 : ∀ {v : Value} {a : AV}, RV g v a → a.closed = true → RV (g.inC s.heap) v a := fun r hc => r.toC (g := g) (g' := g.inC s.heap) (fun _ _ e => e) (fun k b hk e => by show (if k < 2 then g.ad k else none) = some b; rw [if_pos hk]; exact e) hc
    have I1 := enter_inv (n := 0) (env := callEnv f_Tokenizer_fault s.heap.objs.size 157) (nm := n_fault) (A := c.A.deeper (callEnv f_Tokenizer_fault s.heap.objs.size 157)) (vars := [some (.ins 1), some (.str kind), some (.int at_), none, none]) (t := s.toks + 3)
      I ok.kind ok.frm hgc hnoL kp hns (fun i x a hx ha => by
        match i, hx, ha with
        | 0, hx, ha => cases hx; cases ha; exact ⟨v, rfl, in1 rv rfl⟩
        | 1, hx, ha => cases hx; cases ha; exact ⟨_, rfl, .str _ _⟩
        | 2, hx, ha => cases hx; cases ha; exact ⟨_, rfl, .int _ _⟩
        | 3, hx, ha => cases ha
        | 4, hx, ha => cases ha
        | n + 5, hx, ha => simp [n_fault] at hx)
    have H : ∀ (c1 : Cx) (s1 : Shared), CxOk c1 → c1.env.scope = f_Tokenizer_fault.scope → c1.A.handled = none → c1.A.depth = c.A.depth + 1 → c1.A.units = c.A.units + 3 → c1.names = n_fault → c1.W = c.W → c1.outer = c.env :: c.outer → c1.os = c.os →
        Inv c1 (g.inC s.heap) ⟨[some (.ins 1), some (.str kind), some (.int at_), none, none], σ.gc⟩ s1 →
        wpAny c1.M c1.A (execs (fBody f_Tokenizer_fault_st) c1.env) (fun f s' => Q' (match f with | .ret v => v | _ => .none) s') (fun e s' => wpAny c1.M c1.A (leaving c1.env e) (fun _ s'' => E' e s'') (fun e' s'' => E' e' s'') s') s1 := by
      intro c1 s1 ok1 e1 hA1 hA2 hA3 e3 e4 e5 e6 I1
      have eS : Sx c1 = faultSc := by show (⟨c1.names, c1.env.scope⟩ : Sc) = _; rw [e3, e1]; rfl
      refine faultBody_el2 eS (M := fun z => wpAny c1.M c1.A (execs z c1.env) (fun f s' => Q' (match f with | .ret v => v | _ => .none) s') (fun e s' => wpAny c1.M c1.A (leaving c1.env e) (fun _ s'' => E' e s'') (fun e' s'' => E' e' s'') s') s1) k_fault fun t1 t2 kt tp x0 p0 p x2 p2 q ps pf y1 py1 y2 py2 y3 py3 y4 py4 q2 ps2 k1 hx0 k4 hx2 hfk hfd hy1 hy2 hy3 hy4 => ?_
      have hgc1 : gcOk (⟨[some (.ins 1), some (.str kind), some (.int at_), none, none], σ.gc⟩ : AS).gc = true := by rw [gc_of hgc]; exact hgc
      have hC1 : ((⟨[some (.ins 1), some (.str kind), some (.int at_), none, none], σ.gc⟩ : AS).cells[1]? : Option Cell) = some (.dct fs) := (gc_get σ (by decide)).trans hC
      refine wpAny_execs_cons (Assign_Tuple ?_ rfl rfl)
      refine ev_meth ok1 I1 hx0 rfl hC1 (f := 150) (by decide) rfl (show (1 : Nat) < 20 by decide) (by simpa using k4) fun w rw => ?_
      refine args_cons (ev_loc ok1 I1 hx2 rfl fun u ru => args_nil ⟨_, _, I1, wpAny_call ?_⟩) rfl
      refine call_row (r := r_Tokenizer_place) lev o_Tokenizer_place ok1 hA1 rfl (by lia) (by lia) I1 hgc1 (.cons rw (.cons ru .nil)) rfl rfl (BindsTo.of_eq (b_Tokenizer_place _ rfl))
        (Q := fun r σ2 => ∃ gc', gcOk gc' = true ∧ σ2 = (⟨[some (.ins 1), some (.str kind), some (.int at_), none, none], σ.gc⟩ : AS).setG gc' ∧ (match r with | .tup [.int row, .int col] => X (kind, at_, row, col) (σ.setG gc') | _ => False)) (X := fun _ _ => False)
        hw' (fun fl σ1 hq => ⟨hq.1, hq.2.1, _, hq.2.1, rfl, hq.2.2⟩) (fun φ σ1 hq => hq.2.elim) (fun vt at' σ2 g2 s2 le2 I2 rt hq => ?_) (fun _ _ _ _ _ _ _ _ hx => hx.elim)
      obtain ⟨gc', hgc', rfl, hq⟩ := hq
      split at hq
      · rename_i row col
        obtain ⟨l, vs, m, rfl, hT, rs⟩ := I2.seqT rt
        obtain ⟨z1, z2⟩ := areLocs_each c1.env k1
        refine assign_Tuple_tuple (items := vs.toArray) hA1 ⟨_, hT, rfl, m, rfl⟩ (by rw [z1, List.size_toArray, rs.length]; rfl) z2 fun h' hs => ?_
        have I3 := I2.upd (h' := h') s2.toks (fun b o hb hr => hs b o (Nat.ne_of_lt (Heap.lt_size hb)) hb)
        refine ev_unp ok1 k1 rs rfl I3 fun s4 I4 => ?_
        refine wpAny_execs_cons (wpAny_Return_some ?_)
        refine Call_ (ev_glob ok1 I4 hfk hfd c1.W.flt ?_)
        refine callWith_K c1.W.KI (flt_keep _) (args_cons (ev_loc ok1 I4 hy1 rfl fun u1 r1 => ?_) rfl) rfl rfl
        refine args_cons (ev_loc ok1 I4 hy2 rfl fun u2 r2 => ?_) rfl
        refine args_cons (ev_loc ok1 I4 hy3 rfl fun u3 r3 => ?_) rfl
        refine args_cons (ev_loc ok1 I4 hy4 rfl fun u4 r4 => args_nil ⟨I4.KIn, ?_⟩) rfl
        obtain ⟨b1, rfl⟩ := r1.str_inv
        obtain ⟨b2, rfl⟩ := r2.int_inv
        obtain ⟨b3, rfl⟩ := r3.int_inv
        obtain ⟨b4, rfl⟩ := r4.int_inv
        refine ev_newFlt ok1 (by lia) I4 fun e g5 s5 le5 I5 F5 => ?_
        have le := le2.trans le5
        have gceq : ∀ σx : AS, σx.cells = ((⟨[some (.ins 1), some (.str kind), some (.int at_), none, none], σ.gc⟩ : AS).setG gc').cells → σx.gc = gc' := fun σx h => by
          have h2 := setG_gc hgc' (⟨[some (.ins 1), some (.str kind), some (.int at_), none, none], σ.gc⟩ : AS)
          unfold AS.gc at h2 ⊢
          rw [h]; exact h2
        have hgx := gceq (AS.putAll ((⟨[some (.ins 1), some (.str kind), some (.int at_), none, none], σ.gc⟩ : AS).setG gc') [3, 4] [.int row, .int col]) rfl
        have J := leave_inv I ok.frm hgc le I5 e5 e4 e6 (by rw [hgx]; exact hgc')
        rw [hgx] at J
        exact hQ e _ _ _ s5 (leave_le I hgc le) J (leave_flyP I le I5 F5) hq
      · cases hq
    exact H _ _ ok1 rfl hh rfl rfl rfl rfl rfl rfl I1
end

theorem lev_succ {n : Nat} (lev : Lev rowOf n) : Lev rowOf (n + 1) := by
  intro c ok hn hh
  have hdep := ok.depth
  have hun := ok.units
  rw [hn] at hdep hun
  refine ⟨?_, ?_, fun hΦ fs hC v va tk g s Q' E' I rv ra hQ => ev_fault lev ok hn hh hΦ hC I rv ra hQ⟩
  · intro x f mem xs σ Q X hcl hΦ vs g s Q' E' I rs hok hbad
    have hne : f ≠ tokC := by
      have : ∀ p ∈ globs ++ meths, p.2 ≠ tokC := by decide
      exact this _ mem
    obtain ⟨hgc, hΦ⟩ := hΦ
    rw [if_neg hne] at hΦ
    split at hΦ
    · rename_i r hr
      obtain ⟨hlen, hw⟩ := hΦ
      have hm := List.mem_of_find?_eq_some hr
      have ha := List.find?_some hr
      have ha : r.addr = f := beq_iff_eq.mp ha
      obtain ⟨ro, rb⟩ := rows_ok r hm
      rw [← ha]
      exact wpAny_call (call_row lev ro ok hh rfl (by lia) (by lia) I hgc rs hcl hlen (BindsTo.of_eq (rb _ (rs.length.trans hlen))) hw (fun _ _ q => q) (fun _ _ q => q) hok hbad)
    · cases hΦ
  · intro x σ Q hcl hΦ v g s Q' E' I rv hok
    obtain ⟨hgc, hΦ⟩ := hΦ
    rw [if_pos rfl] at hΦ
    split at hΦ
    · rename_i x' c0 hxs hgce
      cases hxs
      have hc0 : c0.ok = true := (gc_mem hgc (k := 0) (by rw [hgce]; rfl)).1
      have hcl1 : x.closed = true := by
        have h' : (x.closed && AV.closedL []) = true := hcl
        rw [Bool.and_eq_true] at h'; exact h'.1
      obtain ⟨rest, hcells⟩ : ∃ rest, σ.cells = c0 :: .unborn :: rest := by
        unfold AS.gc at hgce
        cases hσ : σ.cells with
        | nil => rw [hσ] at hgce; cases hgce
        | cons a l =>
          cases l with
          | nil => rw [hσ] at hgce; cases hgce
          | cons b r => rw [hσ] at hgce; cases hgce; exact ⟨r, rfl⟩
      have hun1 : σ.cells[1]? = some .unborn := by rw [hcells]; rfl
      refine wpAny_call ?_
      obtain ⟨hp, gg, dd, tt, oo⟩ := s
      have KI := I.KIn
      dsimp only at KI
      refine make_core (C := tokC) (init := .ref 136) (makes_of KI (tok_makes _)) (looks_findIn KI (tok_init _)) (fun self => bind_fn KI self (init_type _)) (.inl rfl) ?_
      have I1 := I.grow (h' := hp.push emptyDict) (fun b o e => Heap.get?_push_of_some _ e) tt
      obtain ⟨le1, I2⟩ := I1.born (k := 1) (a := hp.objs.size) (C' := .dct []) hun1 I.freshK (Nat.ne_of_gt I.ltL) I.fresh_ad (Heap.get?_push_size _ rfl) rfl ⟨[], 0, Heap.get?_push_size _ rfl, trivial⟩
      have I3 := I2.alloc (o := instObj tokC hp.objs.size) rfl
      have le2 := I2.le_add (instObj tokC hp.objs.size)
      have hx : (hp.push emptyDict).objs.size = hp.objs.size + 1 := Heap.size_push ..
      dsimp only at I3 le2
      have rx : RV ((g.cell 1 hp.objs.size).add (hp.push emptyDict).objs.size (instObj tokC hp.objs.size)) (.ref (hp.objs.size + 1)) (.ins 1) := by
        rw [← hx]
        exact .ins (d := hp.objs.size) (show (g.cell 1 hp.objs.size).ad 1 = some hp.objs.size from Gh.cell_ad _ _ _) (Gh.add_z _ _ _)
      have hgc2 : (σ.setC 1 (.dct [])).gc = [c0, .dct []] := by unfold AS.gc AS.setC; rw [hcells]; rfl
      have hgc2' : gcOk (σ.setC 1 (.dct [])).gc = true := by rw [hgc2]; exact gcOk2 hc0 rfl
      have hb : BindsTo (⟨(hp.push emptyDict).push (instObj tokC hp.objs.size), gg, dd, tt, oo⟩ : Shared) f_Tokenizer_init ⟨[.ref (hp.objs.size + 1), v], []⟩ ((n_Tokenizer_init.take 3).zip [.ref (hp.objs.size + 1), v, .int 0 372]) :=
        BindsTo.of_defaults (T := 129) (o := ⟨.type "tuple", none, .seq #[.int 0 372] 0, #[]⟩) (items := #[.int 0 372]) (n := 0) rfl (I3.KIn _ _ (by kernel_rfl)) rfl rfl rfl
      have hw : wpSs (PhiN rowOf n) c_Tokenizer_init ⟨[AV.ins 1, x, .int 0].map some ++ List.replicate (n_Tokenizer_init.length - 3) none, (σ.setC 1 (.dct [])).gc⟩ (fun fl σ1 => fl = .next ∧ σ1.cells = [c0, .dct [(.codes, x), (.at, .int 0), (.origin, .int 0)]]) (fun _ _ => False) := by
        rw [hgc2]
        unfold c_Tokenizer_init
        show x.closed = true ∧ _ ≤ 10 ∧ (_ = true ∧ _ ≤ 10 ∧ (_ = true ∧ _ ≤ 10 ∧ (_ = _ ∧ _ = _)))
        exact ⟨hcl1, Nat.zero_le _, rfl, Nat.le_of_ble_eq_true rfl, rfl, Nat.le_of_ble_eq_true rfl, rfl, rfl⟩
      refine call_row (A' := c.A.under (.builtin "type.__call__" ⟨.ref tokC :: [v], []⟩)) (r := r_Tokenizer_init) (Q := fun r σ' => r = .non ∧ σ' = σ.setG [c0, .dct [(.codes, x), (.at, .int 0), (.origin, .int 0)]]) (X := fun _ _ => False) lev o_Tokenizer_init ok hh rfl ?_ ?_ I3 hgc2' (.cons rx (.cons ((rv.le le1).le le2) (.cons (.int 0 372) .nil))) (by show (true && (x.closed && true)) = true; rw [hcl1]; rfl) rfl hb hw (fun fl σ1 q => ?_) (fun _ _ q => q.elim) ?_ (fun _ _ _ _ _ _ _ _ q => q.elim)
      · show c.A.depth + 1 + 10 * n + 12 < recursionLimit
        lia
      · show c.A.units + 1 + 20 * n + 30 < cLine
        lia
      · obtain ⟨rfl, q⟩ := q
        have e1 : σ1.gc = [c0, .dct [(.codes, x), (.at, .int 0), (.origin, .int 0)]] := by unfold AS.gc; rw [q]; rfl
        refine ⟨rfl, ?_, rfl, ?_⟩
        · rw [e1]; exact gcOk2 hc0 (by show (x.closed && (true && (true && true))) = true; rw [hcl1]; rfl)
        · rw [e1]; unfold AS.setG AS.setC; rw [hcells]; rfl
      · intro w a σ' g' s' le I' rw' q
        obtain ⟨rfl, rfl⟩ := q
        cases rw'
        exact ⟨rfl, hok _ (.ins 1) _ _ _ ((le1.trans le2).trans le) I' (rx.le le) hΦ⟩
    · cases hΦ
theorem lev_zero : Lev rowOf 0 := fun c ok hn hh => ⟨fun _ _ _ _ _ _ h => h.elim, fun _ h => h.elim, fun h => h.elim⟩
theorem lev (n : Nat) : Lev rowOf n := by
  induction n with
  | zero => exact lev_zero
  | succ n ih => exact lev_succ ih
end Mine
end

section
open PySem PySem.W PyProof.Rows
set_option linter.unusedVariables false
set_option linter.unusedSimpArgs false
set_option maxRecDepth 100000
set_option maxHeartbeats 4000000
set_option compiler.extract_closed false
namespace Mine
-- V0
theorem phi_of {n : Nat} {f : Addr} {r : Row} {xs : List AV} {gc : List Cell} {Q : AV → List Cell → Prop} {X : Phi → List Cell → Prop} (hr : rowOf f = some r) (hf : f ≠ tokC) (hgc : gcOk gc = true) (hlen : xs.length = r.np)
    (h : wpSs (PhiN rowOf n) r.cs ⟨xs.map some ++ List.replicate (r.nm.length - r.np) none, gc⟩ (fun fl σ => (finV fl).closed = true ∧ gcOk σ.gc = true ∧ Q (finV fl) σ.gc) (fun φ σ => gcOk σ.gc = true ∧ X φ σ.gc)) :
    PhiN rowOf (n + 1) f xs gc Q X := by
  refine ⟨hgc, ?_⟩
  rw [if_neg hf, hr]
  exact ⟨hlen, h⟩
/-! the two cells -/
theorem gc2_eq (vs : List (Option AV)) (a b : Cell) (r : List Cell) : (⟨vs, a :: b :: r⟩ : AS).gc = [a, b] := rfl
theorem gcOk_eq (a b : Cell) : gcOk [a, b] = (a.ok && b.ok) := by
  show ([a, b].length == 2 && (a.ok && (b.ok && true))) = _
  rw [Bool.and_true]; rfl
theorem setG_eq (vs : List (Option AV)) (a b c d : Cell) (r : List Cell) : (⟨vs, a :: b :: r⟩ : AS).setG [c, d] = ⟨vs, c :: d :: r⟩ := rfl
theorem get_eq (vs : List (Option AV)) (cs : List Cell) (i : Nat) : (⟨vs, cs⟩ : AS).get i = (vs[i]?).join := rfl
theorem put_eq (vs : List (Option AV)) (cs : List Cell) (i : Nat) (a : AV) : (⟨vs, cs⟩ : AS).put i a = ⟨vs.set i (some a), cs⟩ := rfl
theorem setC_eq (vs : List (Option AV)) (cs : List Cell) (k : Nat) (C : Cell) : (⟨vs, cs⟩ : AS).setC k C = ⟨vs, cs.set k C⟩ := rfl
theorem new_eq (vs : List (Option AV)) (cs : List Cell) (xs : List AV) : (⟨vs, cs⟩ : AS).new xs = ⟨vs, cs ++ [.lst xs]⟩ := rfl
theorem items_lst (σ : AS) (xs : List AV) : σ.items (.lst xs) = some xs := rfl
theorem items_ref (vs : List (Option AV)) (cs : List Cell) (k : Nat) : (⟨vs, cs⟩ : AS).items (.ref k) = (match cs[k]? with | some (.lst xs) => some xs | _ => none) := rfl
theorem items_tup (σ : AS) (xs : List AV) : σ.items (.tup xs) = none := rfl
theorem items_int (σ : AS) (x : Int) : σ.items (.int x) = none := rfl
theorem items_str (σ : AS) (x : Str) : σ.items (.str x) = none := rfl
theorem seq_tup (σ : AS) (xs : List AV) : σ.seq (.tup xs) = some xs := rfl
theorem seq_lst (σ : AS) (xs : List AV) : σ.seq (.lst xs) = some xs := rfl
theorem seq_ref (σ : AS) (k : Nat) : σ.seq (.ref k) = σ.items (.ref k) := rfl
theorem tr_bool (b : Bool) : tr (.bool b) = some b := rfl

theorem isTrueP_some (b : Bool) (A B : Prop) : isTrueP (some b) A B = (if b = true then A else B) := by cases b <;> simp [isTrueP]

theorem optP_some {α : Type} (a : α) (k : α → Prop) : optP (some a) k = k a := rfl

section
variable (Φ : Spec1) (vs : List (Option AV)) (cs : List Cell) (Q : AV → AS → Prop) (X : Phi → AS → Prop) (P : AF → AS → Prop)
theorem e_var (i : Nat) : wpE Φ (.var i) ⟨vs, cs⟩ Q X = optP (vs[i]?).join (fun a => Q a ⟨vs, cs⟩) := rfl
theorem e_frz (i : Nat) : wpE Φ (.frz i) ⟨vs, cs⟩ Q X = frzP i ⟨vs, cs⟩ (vs[i]?).join Q := rfl
theorem frzP_ref (i k : Nat) : frzP i ⟨vs, cs⟩ (some (.ref k)) Q = lstAt cs[k]? (fun xs => 2 ≤ k ∧ Q (.lst xs) ⟨vs.set i (some (.lst xs)), cs.set k .dead⟩) := rfl
theorem frzP_lst (i : Nat) (xs : List AV) : frzP i ⟨vs, cs⟩ (some (.lst xs)) Q = Q (.lst xs) ⟨vs, cs⟩ := rfl
theorem e_int (n : Int) : wpE Φ (.int n) ⟨vs, cs⟩ Q X = Q (.int n) ⟨vs, cs⟩ := rfl
theorem e_neg (e : CE) : wpE Φ (.neg e) ⟨vs, cs⟩ Q X = wpE Φ e ⟨vs, cs⟩ (fun a σ' => match a with | .int n => Q (.int (-n)) σ' | _ => False) X := rfl
theorem e_str (x : Str) : wpE Φ (.str x) ⟨vs, cs⟩ Q X = Q (.str x) ⟨vs, cs⟩ := rfl
theorem e_non : wpE Φ .non ⟨vs, cs⟩ Q X = Q .non ⟨vs, cs⟩ := rfl
theorem e_bool (b : Bool) : wpE Φ (.bool b) ⟨vs, cs⟩ Q X = Q (.bool b) ⟨vs, cs⟩ := rfl
theorem e_gint (x : Str) (n : Int) : wpE Φ (.gint x n) ⟨vs, cs⟩ Q X = Q (.int n) ⟨vs, cs⟩ := rfl
theorem e_tup (es : CEs) : wpE Φ (.tup es) ⟨vs, cs⟩ Q X = wpEs Φ es ⟨vs, cs⟩ (fun xs σ' => xs.length ≤ 100 ∧ Q (.tup xs) σ') X := rfl
theorem e_lst (es : CEs) : wpE Φ (.lst es) ⟨vs, cs⟩ Q X = wpEs Φ es ⟨vs, cs⟩ (fun xs σ' => xs.length ≤ 100 ∧ Q (.lst xs) σ') X := rfl
theorem e_bin (op : Operator) (a b : CE) : wpE Φ (.bin op a b) ⟨vs, cs⟩ Q X = wpE Φ a ⟨vs, cs⟩ (fun x σ1 => wpE Φ b σ1 (fun y σ2 => binS op σ2 x y (fun v => Q v σ2)) X) X := rfl
theorem e_cmp (op : CmpOp) (a b : CE) : wpE Φ (.cmp op a b) ⟨vs, cs⟩ Q X = wpE Φ a ⟨vs, cs⟩ (fun x σ1 => wpE Φ b σ1 (fun y σ2 => cmpS op σ2 x y (fun v => Q (.bool v) σ2)) X) X := rfl
theorem e_bop (op : BoolOp) (es : CEs) : wpE Φ (.bop op es) ⟨vs, cs⟩ Q X = wpB Φ op es ⟨vs, cs⟩ Q X := rfl
theorem e_not (e : CE) : wpE Φ (.not e) ⟨vs, cs⟩ Q X = wpE Φ e ⟨vs, cs⟩ (fun a σ' => optP (tr a) (fun b => Q (.bool (!b)) σ')) X := rfl
theorem e_ite (c a b : CE) : wpE Φ (.ite c a b) ⟨vs, cs⟩ Q X = wpE Φ c ⟨vs, cs⟩ (fun t σ' => isTrueP (tr t) (wpE Φ a σ' Q X) (wpE Φ b σ' Q X)) X := rfl
theorem e_call (x : Str) (f : Addr) (es : CEs) : wpE Φ (.call x f es) ⟨vs, cs⟩ Q X = wpEs Φ es ⟨vs, cs⟩ (fun xs σ' => AV.closedL xs = true ∧ Φ f xs σ'.gc (fun r gc => Q r (σ'.setG gc)) (fun φ gc => X φ (σ'.setG gc))) X := rfl
theorem e_meth (i : Nat) (x : Str) (f : Addr) (es : CEs) : wpE Φ (.meth i x f es) ⟨vs, cs⟩ Q X = insP (vs[i]?).join cs[1]? (fun _ => wpEs Φ es ⟨vs, cs⟩ (fun xs σ' => AV.closedL xs = true ∧ Φ f (.ins 1 :: xs) σ'.gc (fun r gc => Q r (σ'.setG gc)) (fun φ gc => X φ (σ'.setG gc))) X) := rfl
theorem insP_eq (fs : List (Fld × AV)) (k : List (Fld × AV) → Prop) : insP (some (.ins 1)) (some (.dct fs)) k = k fs := rfl
theorem e_len (a : CE) : wpE Φ (.len a) ⟨vs, cs⟩ Q X = wpE Φ a ⟨vs, cs⟩ (fun x σ' => optP (σ'.items x) (fun xs => xs.length ≤ sizeLine ∧ Q (.int xs.length) σ')) X := rfl
theorem e_chr (a : CE) : wpE Φ (.chr a) ⟨vs, cs⟩ Q X = wpE Φ a ⟨vs, cs⟩ (fun x σ' => match x with | .int n => 0 ≤ n ∧ n ≤ 1114111 ∧ Q (.str ⟨#[n.toNat]⟩) σ' | _ => False) X := rfl
theorem e_abs (a : CE) : wpE Φ (.abs a) ⟨vs, cs⟩ Q X = wpE Φ a ⟨vs, cs⟩ (fun x σ' => match x with | .int n => Q (.int (if n < 0 then -n else n)) σ' | _ => False) X := rfl
theorem e_int' (a : CE) : wpE Φ (.int' a) ⟨vs, cs⟩ Q X = wpE Φ a ⟨vs, cs⟩ (fun x σ' => match x with | .int n => Q (.int n) σ' | _ => False) X := rfl
theorem e_max (a b : CE) : wpE Φ (.max a b) ⟨vs, cs⟩ Q X = wpE Φ a ⟨vs, cs⟩ (fun x σ1 => wpE Φ b σ1 (fun y σ2 => match x, y with | .int m, .int n => Q (.int (if n > m then n else m)) σ2 | _, _ => False) X) X := rfl
theorem e_tuple (a : CE) : wpE Φ (.tuple a) ⟨vs, cs⟩ Q X = wpE Φ a ⟨vs, cs⟩ (fun x σ' => optP (σ'.items x) (fun xs => xs.length ≤ 100000 ∧ Q (.tup xs) σ')) X := rfl
theorem e_join (a : CE) : wpE Φ (.join a) ⟨vs, cs⟩ Q X = wpE Φ a ⟨vs, cs⟩ (fun x σ' => optP (σ'.items x) (fun xs => ∃ ns : List Nat, xs = ns.map (fun n : Nat => AV.int (n : Int)) ∧ (∀ n ∈ ns, n ≤ 1114111) ∧ ns.length ≤ 100000 ∧ Q (.str ⟨ns.toArray⟩) σ')) X := rfl
theorem e_ords (a : CE) : wpE Φ (.ords a) ⟨vs, cs⟩ Q X = wpE Φ a ⟨vs, cs⟩ (fun x σ' => match x with | .str s => s.length ≤ 100000 ∧ Q (.lst (s.cps.toList.map fun n : Nat => AV.int (n : Int))) σ' | _ => False) X := rfl
theorem e_wholes (a : CE) : wpE Φ (.wholes a) ⟨vs, cs⟩ Q X = wpE Φ a ⟨vs, cs⟩ (fun x σ' => optP (σ'.items x) (fun xs => ∃ ns : List Int, xs = ns.map .int ∧ ns.length ≤ 100000 ∧ Q (.lst (ns.map fun n => .int ((if n < 0 then -n else n).fmod (10 ^ 25)))) σ')) X := rfl
theorem e_find (s : Str) (a : CE) : wpE Φ (.find s a) ⟨vs, cs⟩ Q X = wpE Φ a ⟨vs, cs⟩ (fun x σ' => match x with | .str y => Q (.int (Txt.find s y)) σ' | _ => False) X := rfl
theorem e_starts (i : Nat) (s : Str) : wpE Φ (.starts i s) ⟨vs, cs⟩ Q X = strP (vs[i]?).join (fun y => Q (.bool (Txt.startswith y s)) ⟨vs, cs⟩) := rfl
theorem strP_some (y : Str) (k : Str → Prop) : strP (some (.str y)) k = k y := rfl
theorem e_sub (a i : CE) : wpE Φ (.sub a i) ⟨vs, cs⟩ Q X = wpE Φ a ⟨vs, cs⟩ (fun x σ1 => wpE Φ i σ1 (fun y σ2 => match y with
      | .int k => (match x with
        | .str s => 0 ≤ k ∧ k < s.length ∧ k < 100000 ∧ ∃ ch, s.cps[k.toNat]? = some ch ∧ Q (.str ⟨#[ch]⟩) σ2
        | x => optP (σ2.seq x) (fun xs => 0 ≤ k ∧ k < 100000 ∧ ∃ v, xs[k.toNat]? = some v ∧ Q v σ2))
      | _ => False) X) X := rfl
theorem e_attr (i : Nat) (f : Fld) : wpE Φ (.attr i f) ⟨vs, cs⟩ Q X = attrP f (vs[i]?).join cs[1]? (fun v => Q v ⟨vs, cs⟩) := rfl
theorem attrP_ins (f : Fld) (fs : List (Fld × AV)) (R : AV → Prop) : attrP f (some (.ins 1)) (some (.dct fs)) R = optP (fs.lookup f) R := rfl
theorem attrP_flt (f : Fld) (kd : Str) (a r c : Int) (C : Option Cell) (R : AV → Prop) : attrP f (some (.flt kd a r c)) C R = fltP f kd a r c R := rfl
theorem fltP_kind (kd : Str) (a r c : Int) (R : AV → Prop) : fltP .kind kd a r c R = R (.str kd) := rfl
theorem fltP_at (kd : Str) (a r c : Int) (R : AV → Prop) : fltP .at kd a r c R = R (.int a) := rfl
theorem fltP_row (kd : Str) (a r c : Int) (R : AV → Prop) : fltP .row kd a r c R = R (.int r) := rfl
theorem fltP_col (kd : Str) (a r c : Int) (R : AV → Prop) : fltP .column kd a r c R = R (.int c) := rfl
theorem e_newTok (a : CE) : wpE Φ (.newTok a) ⟨vs, cs⟩ Q X = wpE Φ a ⟨vs, cs⟩ (fun x σ' => AV.closedL [x] = true ∧ Φ tokC [x] σ'.gc (fun r gc => Q r (σ'.setG gc)) (fun _ _ => False)) X := rfl
theorem e_nil (R : List AV → AS → Prop) : wpEs Φ .nil ⟨vs, cs⟩ R X = R [] ⟨vs, cs⟩ := rfl
theorem e_cons (e : CE) (es : CEs) (R : List AV → AS → Prop) : wpEs Φ (.cons e es) ⟨vs, cs⟩ R X = wpE Φ e ⟨vs, cs⟩ (fun x σ1 => wpEs Φ es σ1 (fun xs σ2 => R (x :: xs) σ2) X) X := rfl
theorem e_and (e e2 : CE) (es : CEs) : wpB Φ .And (.cons e (.cons e2 es)) ⟨vs, cs⟩ Q X = wpE Φ e ⟨vs, cs⟩ (fun x σ' => isTrueP (tr x) (wpB Φ .And (.cons e2 es) σ' Q X) (Q x σ')) X := rfl
theorem e_or (e e2 : CE) (es : CEs) : wpB Φ .Or (.cons e (.cons e2 es)) ⟨vs, cs⟩ Q X = wpE Φ e ⟨vs, cs⟩ (fun x σ' => isTrueP (tr x) (Q x σ') (wpB Φ .Or (.cons e2 es) σ' Q X)) X := rfl
theorem e_b1 (op : BoolOp) (e : CE) : wpB Φ op (.cons e .nil) ⟨vs, cs⟩ Q X = wpE Φ e ⟨vs, cs⟩ Q X := rfl
/-! statements -/
noncomputable def flP (fl : AF) (k : Prop) (P : AF → AS → Prop) (σ : AS) : Prop := match fl with | .next => k | .brk => P .brk σ | .ret v => P (.ret v) σ
theorem flP_next (k : Prop) (P : AF → AS → Prop) (σ : AS) : flP .next k P σ = k := rfl
theorem flP_brk (k : Prop) (P : AF → AS → Prop) (σ : AS) : flP .brk k P σ = P .brk σ := rfl
theorem flP_ret (v : AV) (k : Prop) (P : AF → AS → Prop) (σ : AS) : flP (.ret v) k P σ = P (.ret v) σ := rfl
theorem c_nil : wpSs Φ .nil ⟨vs, cs⟩ P X = P .next ⟨vs, cs⟩ := rfl
theorem c_cons (s : CS) (ss : CSs) : wpSs Φ (.cons s ss) ⟨vs, cs⟩ P X = wpS Φ s ⟨vs, cs⟩ (fun fl σ' => flP fl (wpSs Φ ss σ' P X) P σ') X := rfl
theorem c_asg (i : Nat) (e : CE) : wpS Φ (.asg i e) ⟨vs, cs⟩ P X = wpE Φ e ⟨vs, cs⟩ (fun a σ' => P .next (σ'.put i a)) X := rfl
theorem c_asgL (i : Nat) (es : CEs) : wpS Φ (.asgL i es) ⟨vs, cs⟩ P X = wpEs Φ es ⟨vs, cs⟩ (fun xs σ' => xs.length ≤ 100 ∧ 2 ≤ σ'.cells.length ∧ P .next ((σ'.new xs).put i (.ref σ'.cells.length))) X := rfl
theorem c_unp (is : List Nat) (e : CE) : wpS Φ (.unp is e) ⟨vs, cs⟩ P X = wpE Φ e ⟨vs, cs⟩ (fun a σ' => match a with | .tup xs => xs.length = is.length ∧ P .next (σ'.putAll is xs) | _ => False) X := rfl
theorem c_setAt (i : Nat) (f : Fld) (e : CE) : wpS Φ (.setAt i f e) ⟨vs, cs⟩ P X = wpE Φ e ⟨vs, cs⟩ (fun a σ' => insP (σ'.get i) σ'.cells[1]? (fun fs => a.closed = true ∧ fs.length ≤ 10 ∧ P .next (σ'.setC 1 (.dct (putF f a fs))))) X := rfl
theorem c_cif (c : CE) (t e : CSs) : wpS Φ (.cif c t e) ⟨vs, cs⟩ P X = wpE Φ c ⟨vs, cs⟩ (fun a σ' => isTrueP (tr a) (wpSs Φ t σ' P X) (wpSs Φ e σ' P X)) X := rfl
theorem c_exp (e : CE) : wpS Φ (.exp e) ⟨vs, cs⟩ P X = wpE Φ e ⟨vs, cs⟩ (fun _ σ' => P .next σ') X := rfl
theorem c_ret (e : CE) : wpS Φ (.ret e) ⟨vs, cs⟩ P X = wpE Φ e ⟨vs, cs⟩ (fun a σ' => P (.ret a) σ') X := rfl
theorem c_ret0 : wpS Φ .ret0 ⟨vs, cs⟩ P X = P (.ret .non) ⟨vs, cs⟩ := rfl
theorem c_brk : wpS Φ .brk ⟨vs, cs⟩ P X = P .brk ⟨vs, cs⟩ := rfl
end

theorem p_lt (σ : AS) (x y : Int) (Q : Bool → Prop) : cmpS .Lt σ (.int x) (.int y) Q = Q (decide (x < y)) := rfl
theorem p_le (σ : AS) (x y : Int) (Q : Bool → Prop) : cmpS .LtE σ (.int x) (.int y) Q = Q (decide (x ≤ y)) := rfl
theorem p_gt (σ : AS) (x y : Int) (Q : Bool → Prop) : cmpS .Gt σ (.int x) (.int y) Q = Q (decide (y < x)) := rfl
theorem p_ge (σ : AS) (x y : Int) (Q : Bool → Prop) : cmpS .GtE σ (.int x) (.int y) Q = Q (decide (y ≤ x)) := rfl
theorem p_eq (σ : AS) (x y : Int) (Q : Bool → Prop) : cmpS .Eq σ (.int x) (.int y) Q = Q (decide (x = y)) := rfl
theorem p_ne (σ : AS) (x y : Int) (Q : Bool → Prop) : cmpS .NotEq σ (.int x) (.int y) Q = Q (!decide (x = y)) := rfl
theorem p_eqs (σ : AS) (x y : Str) (Q : Bool → Prop) : cmpS .Eq σ (.str x) (.str y) Q = Q (decide (x = y)) := rfl
theorem p_in (σ : AS) (x y : Str) (Q : Bool → Prop) : cmpS .In σ (.str x) (.str y) Q = Q (Txt.contains y x) := rfl
theorem o_add (σ : AS) (x y : Int) (Q : AV → Prop) : binS .Add σ (.int x) (.int y) Q = Q (.int (x + y)) := rfl
theorem o_sub (σ : AS) (x y : Int) (Q : AV → Prop) : binS .Sub σ (.int x) (.int y) Q = Q (.int (x - y)) := rfl
theorem o_mul (σ : AS) (x y : Int) (Q : AV → Prop) : binS .Mult σ (.int x) (.int y) Q = (IntMulOk x y ∧ Q (.int (x * y))) := rfl
theorem o_mod (σ : AS) (x y : Int) (Q : AV → Prop) : binS .Mod σ (.int x) (.int y) Q = (y ≠ 0 ∧ Q (.int (x.fmod y))) := rfl
theorem o_fdiv (σ : AS) (x y : Int) (Q : AV → Prop) : binS .FloorDiv σ (.int x) (.int y) Q = (0 < y ∧ y < 10000 ∧ Q (.int (x.fdiv y))) := rfl

theorem closedL_ints (l : List Int) : AV.closedL (l.map AV.int) = true := by
  induction l with
  | nil => rfl
  | cons a l ih => show (true && AV.closedL (l.map AV.int)) = true; rw [ih]; rfl

noncomputable def isLayoutB (c : Int) : Bool := decide (c = 32) || (decide (9 ≤ c) && decide (c ≤ 13))
noncomputable def isDigitB (c : Int) : Bool := decide (48 ≤ c) && decide (c ≤ 57)
noncomputable def isSmallB (c : Int) : Bool := decide (97 ≤ c) && decide (c ≤ 122)
noncomputable def isCapitalB (c : Int) : Bool := decide (65 ≤ c) && decide (c ≤ 90)

-- V7
noncomputable def flW (fl : AF) (k : Prop) (P : AF → AS → Prop) (σ : AS) : Prop := match fl with | .next => k | .brk => P .next σ | .ret v => P (.ret v) σ
theorem flW_next (k : Prop) (P : AF → AS → Prop) (σ : AS) : flW .next k P σ = k := rfl
theorem flW_brk (k : Prop) (P : AF → AS → Prop) (σ : AS) : flW .brk k P σ = P .next σ := rfl
theorem flW_ret (v : AV) (k : Prop) (P : AF → AS → Prop) (σ : AS) : flW (.ret v) k P σ = P (.ret v) σ := rfl



theorem refP_ref (n : Nat) (k : Nat → Prop) : refP (some (.ref n)) k = k n := rfl
theorem lstAt_some (xs : List AV) (k : List AV → Prop) : lstAt (some (.lst xs)) k = k xs := rfl
theorem intP_int (n : Int) (k : Int → Prop) : intP (.int n) k = k n := rfl
theorem lstP_lst (n : List AV) (k : List AV → Prop) : lstP (.lst n) k = k n := rfl
section
variable (Φ : Spec1) (vs : List (Option AV)) (cs : List Cell) (P : AF → AS → Prop) (X : Phi → AS → Prop)
theorem c_app (i : Nat) (e : CE) : wpS Φ (.app i e) ⟨vs, cs⟩ P X = refP (vs[i]?).join (fun k => lstAt cs[k]? fun _ => wpE Φ e ⟨vs, cs⟩ (fun v σ' => lstAt σ'.cells[k]? fun xs => xs.length ≤ 100000 ∧ P .next (σ'.setC k (.lst (xs ++ [v])))) X) := rfl
theorem c_rev (i : Nat) : wpS Φ (.rev i) ⟨vs, cs⟩ P X = refP (vs[i]?).join (fun k => lstAt cs[k]? fun xs => xs.length ≤ 100000 ∧ P .next ⟨vs, cs.set k (.lst xs.reverse)⟩) := rfl
theorem c_setSub (i n : Nat) (e : CE) : wpS Φ (.setSub i n e) ⟨vs, cs⟩ P X = wpE Φ e ⟨vs, cs⟩ (fun a σ' => refP (σ'.get i) fun k => lstAt σ'.cells[k]? fun xs => n < xs.length ∧ n ≤ 1000 ∧ xs.length ≤ 100000 ∧ P .next (σ'.setC k (.lst (xs.set n a)))) X := rfl
theorem c_aug (i : Nat) (op : Operator) (e : CE) : wpS Φ (.aug i op e) ⟨vs, cs⟩ P X = augQ (vs[i]?).join (fun x => wpE Φ e ⟨vs, cs⟩ (fun v σ' => intP v fun y => binS op σ' (.int x) (.int y) (fun r => P .next (σ'.put i r))) X)
      (fun k => wpE Φ e ⟨vs, cs⟩ (fun v σ' => augR op v σ'.cells[k]? fun zs => P .next ((σ'.setC k (.lst zs)).put i (.ref k))) X) := rfl
theorem augQ_int (x : Int) (ki : Int → Prop) (kr : Nat → Prop) : augQ (some (.int x)) ki kr = ki x := rfl
theorem augQ_ref (k : Nat) (ki : Int → Prop) (kr : Nat → Prop) : augQ (some (.ref k)) ki kr = kr k := rfl
theorem augR_add (xs ys : List AV) (k : List AV → Prop) : augR .Add (.lst ys) (some (.lst xs)) k = (xs.length + ys.length ≤ 100000 ∧ k (xs ++ ys)) := rfl
theorem c_augSub {i n k : Nat} {op : Operator} {m : Int} {xs : List AV} {x : Int} (h1 : (vs[i]?).join = some (.ref k)) (h2 : cs[k]? = some (.lst xs)) (h3 : xs[n]? = some (.int x)) (hn : n ≤ 1000)
    (hl : xs.length ≤ 100000) (kk : binS op ⟨vs, cs⟩ (.int x) (.int m) (fun r => P .next ⟨vs, cs.set k (.lst (xs.set n r))⟩)) : wpS Φ (.augSub i n op (.int m)) ⟨vs, cs⟩ P X := by
  show refP (vs[i]?).join _
  rw [h1]
  show lstAt cs[k]? _
  rw [h2]
  refine ⟨hn, ?_⟩
  show oIntP xs[n]? _
  rw [h3]
  show lstAt cs[k]? _
  rw [h2]
  have hlt : n < xs.length := by
    rcases Nat.lt_or_ge n xs.length with h | h
    · exact h
    · rw [List.getElem?_eq_none h] at h3; cases h3
  exact ⟨hlt, hl, kk⟩
theorem c_retL (es : CEs) : wpS Φ (.retL es) ⟨vs, cs⟩ P X = wpEs Φ es ⟨vs, cs⟩ (fun xs σ' => xs.length ≤ 100 ∧ σ'.cells[0]? = some .unborn ∧ P (.ret (.ref 0)) (σ'.setC 0 (.lst xs))) X := rfl
theorem c_forR (i : Nat) (e : CE) (b : CSs) : wpS Φ (.forR i e b) ⟨vs, cs⟩ P X = wpE Φ e ⟨vs, cs⟩ (fun a σ' => intP a fun n => 0 ≤ n ∧ n ≤ 1000000 ∧ forGo (fun σ P => wpSs Φ b σ P X) i P ((List.range n.toNat).map fun k : Nat => AV.int (k : Int)) σ') X := rfl
theorem c_forL (i : Nat) (e : CE) (b : CSs) : wpS Φ (.forL i e b) ⟨vs, cs⟩ P X = wpE Φ e ⟨vs, cs⟩ (fun a σ' => lstP a fun xs => forGo (fun σ P => wpSs Φ b σ P X) i P xs σ') X := rfl
theorem c_tryN (b h : CSs) : wpS Φ (.tryN b h) ⟨vs, cs⟩ P X = wpSs Φ b ⟨vs, cs⟩ P (fun φ σ' => wpSs Φ h σ' P X) := rfl
theorem c_tryA (b : CSs) (i : Nat) (h : CSs) : wpS Φ (.tryA b i h) ⟨vs, cs⟩ P X = wpSs Φ b ⟨vs, cs⟩ P (fun φ σ' => wpSs Φ h (σ'.put i (.flt φ.1 φ.2.1 φ.2.2.1 φ.2.2.2)) (fun fl σ'' => P fl (σ''.del i)) X) := rfl
theorem forGo_cons (B : AS → (AF → AS → Prop) → Prop) (i : Nat) (x : AV) (xs : List AV) (σ : AS) : forGo B i P (x :: xs) σ = B (σ.put i x) (fun fl σ' => flW fl (forGo B i P xs σ') P σ') := by
  show B _ _ = B _ _
  congr 1
theorem forGo_inv {B : AS → (AF → AS → Prop) → Prop} {i : Nat} {P : AF → AS → Prop} (I : Nat → AS → Prop) : ∀ (xs : List AV) (k : Nat) (σ : AS), I k σ → (∀ j (σ' : AS) (K : AS → Prop) (h : j < xs.length), I (k + j) σ' → (∀ σ'', I (k + j + 1) σ'' → K σ'') → B (σ'.put i xs[j]) (fun fl σ'' => flW fl (K σ'') P σ'')) →
    (∀ σ', I (k + xs.length) σ' → P .next σ') → forGo B i P xs σ
  | [], k, σ, h0, _, hP => hP σ h0
  | x :: xs, k, σ, h0, hs, hP => by
    rw [forGo_cons]
    refine hs 0 σ _ (Nat.zero_lt_succ _) h0 fun σ'' hq => ?_
    refine forGo_inv I xs (k + 1) σ'' hq ?_ ?_
    · intro j σ' K hj hI hK
      have := hs (j + 1) σ' K (Nat.succ_lt_succ hj) (by rw [show k + (j + 1) = k + 1 + j by lia]; exact hI) (fun σ'' z => hK σ'' (by rw [show k + 1 + j + 1 = k + (j + 1) + 1 by lia]; exact z))
      exact this
    · intro σ' hI
      exact hP σ' (by rw [List.length_cons, show k + (xs.length + 1) = k + 1 + xs.length by lia]; exact hI)
end
theorem exP {α : Type} (o : Option α) (Q : α → Prop) : (∃ v, o = some v ∧ Q v) = optP o Q := by
  cases o with
  | none => exact propext ⟨(fun ⟨v, h, _⟩ => by cases h), fun h => False.elim h⟩
  | some a => exact propext ⟨(fun ⟨v, h, q⟩ => by cases h; exact q), fun h => ⟨a, rfl, h⟩⟩
theorem lt02 : ((0 : Nat) < 2) = True := by simp
theorem toNat_0 : Int.toNat 0 = 0 := rfl
theorem toNat_1 : Int.toNat 1 = 1 := rfl
theorem toNat_2 : Int.toNat 2 = 2 := rfl
theorem o_addL (σ : AS) (xs ys : List AV) (Q : AV → Prop) : binS .Add σ (.lst xs) (.lst ys) Q = (xs.length + ys.length ≤ sizeLine ∧ Q (.lst (xs ++ ys))) := rfl
noncomputable def addRL (C : Option Cell) (ys : List AV) (Q : AV → Prop) : Prop := match C with | some (.lst xs) => xs.length + ys.length ≤ sizeLine ∧ Q (.lst (xs ++ ys)) | _ => False
theorem addRL_some (xs ys : List AV) (Q : AV → Prop) : addRL (some (.lst xs)) ys Q = (xs.length + ys.length ≤ sizeLine ∧ Q (.lst (xs ++ ys))) := rfl
theorem o_addRL (vs : List (Option AV)) (cs : List Cell) (k : Nat) (ys : List AV) (Q : AV → Prop) : binS .Add ⟨vs, cs⟩ (.ref k) (.lst ys) Q = addRL cs[k]? ys Q := by
  show (match (match cs[k]? with | some (.lst xs) => some xs | _ => none), some ys with | some xs, some ys => _ | _, _ => False) = _
  unfold addRL
  cases cs[k]? with
  | none => rfl
  | some C => cases C <;> rfl
noncomputable def sliceP (xs : Option (List AV)) (l h : Option (Option Int)) (k : AV → Prop) : Prop := match xs, l, h with
  | some xs, some l, some h => xs.length ≤ sizeLine ∧ k (.lst ((xs.take (h.elim xs.length (·.toNat))).drop (l.elim 0 (·.toNat))))
  | _, _, _ => False
theorem sliceP_some (xs : List AV) (l h : Option Int) (k : AV → Prop) : sliceP (some xs) (some l) (some h) k = (xs.length ≤ sizeLine ∧ k (.lst ((xs.take (h.elim xs.length (·.toNat))).drop (l.elim 0 (·.toNat))))) := rfl
theorem e_slice (Φ : Spec1) (vs : List (Option AV)) (cs : List Cell) (Q : AV → AS → Prop) (X : Phi → AS → Prop) (a : CE) (lo hi lv hv : Option Nat) :
    wpE Φ (.slice a lo hi lv hv) ⟨vs, cs⟩ Q X = wpE Φ a ⟨vs, cs⟩ (fun x σ' => sliceP (σ'.items x) (partOf σ' lo lv) (partOf σ' hi hv) (fun v => Q v σ')) X := rfl
noncomputable def partV (o : Option AV) : Option (Option Int) := match o with | some (.int k) => if 0 ≤ k then some (some k) else none | _ => none
theorem part_var (vs : List (Option AV)) (cs : List Cell) (i : Nat) : partOf ⟨vs, cs⟩ none (some i) = partV (vs[i]?).join := rfl
theorem part_lit (σ : AS) (k : Nat) (v : Option Nat) : partOf σ (some k) v = some (some (k : Int)) := by cases v <;> rfl
theorem part_none (σ : AS) : partOf σ none none = some none := rfl
theorem partV_nat (p : Nat) : partV (some (.int (p : Int))) = some (some (p : Int)) := by unfold partV; simp
noncomputable def textOf (l : List Int) : Str := ⟨(l.map Int.toNat).toArray⟩
noncomputable abbrev tk (cs : List Int) (a o : Int) : Cell := .dct [(.codes, .lst (cs.map .int)), (.at, .int a), (.origin, .int o)]
theorem lk_codes (x y z : AV) : List.lookup Fld.codes [(Fld.codes, x), (Fld.at, y), (Fld.origin, z)] = some x := rfl
theorem lk_at (x y z : AV) : List.lookup Fld.at [(Fld.codes, x), (Fld.at, y), (Fld.origin, z)] = some y := rfl
theorem lk_origin (x y z : AV) : List.lookup Fld.origin [(Fld.codes, x), (Fld.at, y), (Fld.origin, z)] = some z := rfl
theorem put_at (x y z v : AV) : putF .at v [(Fld.codes, x), (Fld.at, y), (Fld.origin, z)] = [(Fld.codes, x), (Fld.at, v), (Fld.origin, z)] := rfl
theorem gcOk_tk (c0 : Cell) (cs : List Int) (a o : Int) : gcOk [c0, tk cs a o] = c0.ok := by
  rw [gcOk_eq]
  show (c0.ok && (AV.closedL (cs.map .int) && (true && (true && true)))) = _
  rw [closedL_ints]; simp
noncomputable def finP (Q : AV → List Cell → Prop) (fl : AF) (σ : AS) : Prop := (finV fl).closed = true ∧ gcOk σ.gc = true ∧ Q (finV fl) σ.gc
noncomputable def finX (X : Phi → List Cell → Prop) (φ : Phi) (σ : AS) : Prop := gcOk σ.gc = true ∧ X φ σ.gc
noncomputable def whP (I : AS → Nat → Prop) (n : Nat) (P : AF → AS → Prop) (fl : AF) (σ : AS) : Prop := flW fl (∃ m, m < n ∧ I σ m) P σ
noncomputable def sqP (Φ : Spec1) (ss : CSs) (P : AF → AS → Prop) (X : Phi → AS → Prop) (fl : AF) (σ : AS) : Prop := flP fl (wpSs Φ ss σ P X) P σ
noncomputable def ifP (Φ : Spec1) (t e : CSs) (P : AF → AS → Prop) (X : Phi → AS → Prop) (a : AV) (σ : AS) : Prop := isTrueP (tr a) (wpSs Φ t σ P X) (wpSs Φ e σ P X)
section
variable (Φ : Spec1) (vs : List (Option AV)) (cs : List Cell) (σ : AS) (P : AF → AS → Prop) (X : Phi → AS → Prop) (ss t e : CSs) (v : AV) (I : AS → Nat → Prop) (n : Nat) (a b : Cell) (r : List Cell)
theorem m_cons (s : CS) : wpSs Φ (.cons s ss) ⟨vs, cs⟩ P X = wpS Φ s ⟨vs, cs⟩ (sqP Φ ss P X) X := rfl
theorem m_next : sqP Φ ss P X .next σ = wpSs Φ ss σ P X := rfl
theorem m_brk : sqP Φ ss P X .brk σ = P .brk σ := rfl
theorem m_ret : sqP Φ ss P X (.ret v) σ = P (.ret v) σ := rfl
theorem m_cif (c : CE) : wpS Φ (.cif c t e) ⟨vs, cs⟩ P X = wpE Φ c ⟨vs, cs⟩ (ifP Φ t e P X) X := rfl
theorem m_ift : ifP Φ t e P X (.bool true) σ = wpSs Φ t σ P X := rfl
theorem m_iff : ifP Φ t e P X (.bool false) σ = wpSs Φ e σ P X := rfl
theorem m_wnext : whP I n P .next σ = (∃ m, m < n ∧ I σ m) := rfl
theorem m_wbrk : whP I n P .brk σ = P .next σ := rfl
theorem m_wret : whP I n P (.ret v) σ = P (.ret v) σ := rfl
theorem m_fret (Q : AV → List Cell → Prop) : finP Q (.ret v) ⟨vs, a :: b :: r⟩ = (v.closed = true ∧ gcOk [a, b] = true ∧ Q v [a, b]) := rfl
theorem m_fnext (Q : AV → List Cell → Prop) : finP Q .next ⟨vs, a :: b :: r⟩ = (gcOk [a, b] = true ∧ Q .non [a, b]) := propext ⟨fun h => h.2, fun h => ⟨rfl, h⟩⟩
theorem m_fx (Y : Phi → List Cell → Prop) (φ : Phi) : finX Y φ ⟨vs, a :: b :: r⟩ = (gcOk [a, b] = true ∧ Y φ [a, b]) := rfl
end

local macro_rules | `(tactic| walk_at "vmd") => `(tactic| dsimp only [e_frz, frzP_ref, frzP_lst, e_meth, insP_eq, e_starts, strP_some, e_attr, attrP_ins, c_setAt, c_app, c_rev, c_setSub, c_aug, augQ_int, augQ_ref, augR_add, c_retL, c_tryN, c_forR, c_forL, e_slice, finV, flP_next, flP_brk, flP_ret, c_nil, c_asg, c_asgL, c_unp, c_exp, c_ret, c_ret0, c_brk, flW_next, flW_brk, flW_ret, e_var, e_int, e_neg, e_str, e_non, e_bool, e_gint, e_tup, e_lst, e_bin, e_cmp, e_bop, e_not, e_ite, e_call, e_len, e_chr, e_abs, e_int', e_max, e_tuple, e_join, e_ords, e_find, e_sub, e_nil, e_cons, e_and, e_or, e_b1, p_lt, p_le, p_gt, p_ge, p_eq, p_ne, p_eqs, p_in, o_add, o_sub, o_mul, o_mod, o_fdiv, lk_codes, lk_at, lk_origin, put_at, get_eq, put_eq, setC_eq, new_eq, items_lst, items_tup, items_ref, seq_tup, seq_lst, List.getElem?_cons_zero, List.getElem?_cons_succ, List.getElem?_nil, List.set_cons_zero, List.set_cons_succ, Option.join_some, Option.join_none, optP_some, tr_bool, gc2_eq, setG_eq, AV.closed, AV.closedL, List.length_cons, List.length_nil, refP_ref, lstAt_some, intP_int, lstP_lst, sliceP_some, part_var, part_lit, part_none, seq_ref, toNat_0, toNat_1, toNat_2, Option.map_some, o_addL, addRL_some, List.cons_append, List.nil_append, m_cons, m_next, m_brk, m_ret, m_cif, m_ift, m_iff, m_wnext, m_wbrk, m_wret, m_fret, m_fx])
local macro_rules | `(tactic| walk_at "vmp") => `(tactic| simp only [gcOk_tk, closedL_ints, List.length_map, isTrueP_some, Bool.and_true, Bool.true_and, Bool.and_self, true_and, and_true, decide_eq_true_eq, Bool.not_eq_true', Bool.false_eq_true, if_false, if_true, ite_true, ite_false, Bool.not_true, Bool.not_false, partV_nat, exP, lt02, o_addRL, m_fnext])
local macro_rules | `(tactic| walk_at "vm") => `(tactic| ((first | walk_at "vmd" | walk_at "vmp"); repeat (first | walk_at "vmd" | walk_at "vmp")))
local macro_rules | `(tactic| walk_at "vx") => `(tactic| dsimp only [ifP])
local macro_rules | `(tactic| walk_at "vc") => `(tactic| ((first | walk_at "vmd" | walk_at "vmp" | walk_at "vx"); repeat (first | walk_at "vmd" | walk_at "vmp" | walk_at "vx")))
-- V1
theorem phi_iff' {n : Nat} {f : Addr} {r : Row} {xs : List AV} {gc : List Cell} {Q : AV → List Cell → Prop} {X : Phi → List Cell → Prop} (hr : rowOf f = some r) (hf : f ≠ tokC) (hlen : xs.length = r.np) :
    PhiN rowOf (n + 1) f xs gc Q X ↔ (gcOk gc = true ∧ wpSs (PhiN rowOf n) r.cs ⟨xs.map some ++ List.replicate (r.nm.length - r.np) none, gc⟩ (fun fl σ => (finV fl).closed = true ∧ gcOk σ.gc = true ∧ Q (finV fl) σ.gc) (fun φ σ => gcOk σ.gc = true ∧ X φ σ.gc)) := by
  constructor
  · intro h
    obtain ⟨h0, h⟩ := h
    rw [if_neg hf, hr] at h
    exact ⟨h0, h.2⟩
  · exact fun h => phi_of hr hf h.1 hlen h.2

section
variable {n : Nat} {a b : Cell} {c : Int} {Q : AV → List Cell → Prop} {X : Phi → List Cell → Prop}

theorem t_is_layout : PhiN rowOf (n + 1) 53 [.int c] [a, b] Q X ↔ (gcOk [a, b] = true ∧ Q (.bool (isLayoutB c)) [a, b]) := by
  rw [phi_iff' w_is_layout (by decide) rfl]
  refine and_congr_right fun h => ?_
  show wpSs _ c_is_layout ⟨[some (.int c)], _⟩ _ _ ↔ _
  unfold c_is_layout
  walk_at "vc"
  simp only [h, true_and]
  unfold isLayoutB
  by_cases h1 : c = 32 <;> by_cases h2 : 9 ≤ c <;> simp [h1, h2]
theorem t_is_digit : PhiN rowOf (n + 1) 60 [.int c] [a, b] Q X ↔ (gcOk [a, b] = true ∧ Q (.bool (isDigitB c)) [a, b]) := by
  rw [phi_iff' w_is_digit (by decide) rfl]
  refine and_congr_right fun h => ?_
  show wpSs _ c_is_digit ⟨[some (.int c)], _⟩ _ _ ↔ _
  unfold c_is_digit
  walk_at "vc"
  simp only [h, true_and]
  unfold isDigitB
  by_cases h1 : 48 ≤ c <;> simp [h1]
theorem t_is_small : PhiN rowOf (n + 1) 67 [.int c] [a, b] Q X ↔ (gcOk [a, b] = true ∧ Q (.bool (isSmallB c)) [a, b]) := by
  rw [phi_iff' w_is_small (by decide) rfl]
  refine and_congr_right fun h => ?_
  show wpSs _ c_is_small ⟨[some (.int c)], _⟩ _ _ ↔ _
  unfold c_is_small
  walk_at "vc"
  simp only [h, true_and]
  unfold isSmallB
  by_cases h1 : 97 ≤ c <;> simp [h1]
theorem t_is_capital : PhiN rowOf (n + 1) 74 [.int c] [a, b] Q X ↔ (gcOk [a, b] = true ∧ Q (.bool (isCapitalB c)) [a, b]) := by
  rw [phi_iff' w_is_capital (by decide) rfl]
  refine and_congr_right fun h => ?_
  show wpSs _ c_is_capital ⟨[some (.int c)], _⟩ _ _ ↔ _
  unfold c_is_capital
  walk_at "vc"
  simp only [h, true_and]
  unfold isCapitalB
  by_cases h1 : 65 ≤ c <;> simp [h1]

noncomputable def isAlnumB (c : Int) : Bool := isSmallB c || (isCapitalB c || (isDigitB c || decide (c = 95)))
theorem t_is_alnum : PhiN rowOf (n + 2) 81 [.int c] [a, b] Q X ↔ (gcOk [a, b] = true ∧ Q (.bool (isAlnumB c)) [a, b]) := by
  rw [phi_iff' w_is_alnum (by decide) rfl]
  refine and_congr_right fun h => ?_
  show wpSs _ c_is_alnum ⟨[some (.int c)], _⟩ _ _ ↔ _
  unfold c_is_alnum
  repeat (first | walk_at "vc" | simp only [t_is_small, t_is_capital, t_is_digit, h, true_and])
  unfold isAlnumB
  cases isSmallB c <;> cases isCapitalB c <;> cases isDigitB c <;> simp

noncomputable def symStr : Str := "+-*/\\^<>=~:.?@#&$"
noncomputable def isSymbolB (c : Int) : Bool := decide (0 ≤ c) && (decide (c < 128) && Txt.contains symStr ⟨#[c.toNat]⟩)
theorem t_is_symbol : PhiN rowOf (n + 1) 88 [.int c] [a, b] Q X ↔ (gcOk [a, b] = true ∧ Q (.bool (isSymbolB c)) [a, b]) := by
  rw [phi_iff' w_is_symbol (by decide) rfl]
  refine and_congr_right fun h => ?_
  show wpSs _ c_is_symbol ⟨[some (.int c)], _⟩ _ _ ↔ _
  unfold c_is_symbol
  walk_at "vc"
  simp only [h, true_and]
  unfold isSymbolB
  by_cases h1 : 0 ≤ c <;> by_cases h2 : c < 128 <;> simp [h1, h2]
  · have h3 : c ≤ 1114111 := by lia
    simp [h3, symStr]
noncomputable def isQuotableB (c : Int) : Bool := decide (32 ≤ c) && (!decide (c = 127) && decide (c ≤ 1114111))
theorem t_is_quotable : PhiN rowOf (n + 1) 95 [.int c] [a, b] Q X ↔ (gcOk [a, b] = true ∧ Q (.bool (isQuotableB c)) [a, b]) := by
  rw [phi_iff' w_is_quotable (by decide) rfl]
  refine and_congr_right fun h => ?_
  show wpSs _ c_is_quotable ⟨[some (.int c)], _⟩ _ _ ↔ _
  unfold c_is_quotable
  walk_at "vc"
  simp only [h, true_and]
  unfold isQuotableB
  by_cases h1 : 32 ≤ c <;> by_cases h2 : c = 127 <;> simp [h1, h2]

noncomputable def digitV (c : Int) : Int := if isDigitB c then c - 48 else if isSmallB c then c - 87 else if isCapitalB c then c - 55 else -1
theorem t_digit_value : PhiN rowOf (n + 2) 102 [.int c] [a, b] Q X ↔ (gcOk [a, b] = true ∧ Q (.int (digitV c)) [a, b]) := by
  rw [phi_iff' w_digit_value (by decide) rfl]
  refine and_congr_right fun h => ?_
  show wpSs _ c_digit_value ⟨[some (.int c)], _⟩ _ _ ↔ _
  unfold c_digit_value
  repeat (first | walk_at "vc" | simp only [t_is_small, t_is_capital, t_is_digit, h, true_and])
  unfold digitV
  cases isSmallB c <;> cases isCapitalB c <;> cases isDigitB c <;> simp

noncomputable def numBase (c : Int) : Int := if c = 98 then 2 else if c = 111 then 8 else if c = 120 then 16 else 0
theorem t_numeral_base : PhiN rowOf (n + 1) 121 [.int c] [a, b] Q X ↔ (gcOk [a, b] = true ∧ Q (.int (numBase c)) [a, b]) := by
  rw [phi_iff' w_numeral_base (by decide) rfl]
  refine and_congr_right fun h => ?_
  show wpSs _ c_numeral_base ⟨[some (.int c)], _⟩ _ _ ↔ _
  unfold c_numeral_base
  walk_at "vc"
  simp only [h, true_and]
  unfold numBase
  by_cases h1 : c = 98 <;> by_cases h2 : c = 111 <;> by_cases h3 : c = 120 <;> simp [h1, h2, h3]

noncomputable def escStr : Str := "\\'\"`"
noncomputable def abtStr : Str := "abtnvfr"
noncomputable def simpleEsc (c : Int) : Int :=
  let ch : Str := ⟨#[(if 0 > c then 0 else c).toNat]⟩
  if Txt.contains escStr ch then c else if 0 ≤ Txt.find abtStr ch then 7 + Txt.find abtStr ch else -1
theorem t_simple_escape : PhiN rowOf (n + 1) 114 [.int c] [a, b] Q X ↔ (gcOk [a, b] = true ∧ c ≤ 1114111 ∧ Q (.int (simpleEsc c)) [a, b]) := by
  rw [phi_iff' w_simple_escape (by decide) rfl]
  refine and_congr_right fun h => ?_
  show wpSs _ c_simple_escape ⟨[some (.int c), none, none], _⟩ _ _ ↔ _
  unfold c_simple_escape
  walk_at "vc"
  simp only [h, true_and]
  have h0 : 0 ≤ (if (0 : Int) > c then 0 else c) := by split <;> lia
  have h1 : (if (0 : Int) > c then 0 else c) ≤ 1114111 ↔ c ≤ 1114111 := by split <;> lia
  simp only [h0, h1, true_and]
  refine and_congr_right fun _ => ?_
  unfold simpleEsc escStr abtStr
  dsimp only
  cases Txt.contains (Str.ofString "\\'\"`") ⟨#[(if (0 : Int) > c then 0 else c).toNat]⟩ <;> by_cases h2 : 0 ≤ Txt.find (Str.ofString "abtnvfr") ⟨#[(if (0 : Int) > c then 0 else c).toNat]⟩ <;> simp [h2]
end

-- V2
theorem c_whl {Φ : Spec1} {cond : CE} {b : CSs} {σ : AS} {P : AF → AS → Prop} {X : Phi → AS → Prop} (I : AS → Nat → Prop) (n : Nat) (h0 : I σ n)
    (h : ∀ σ n, I σ n → wpE Φ cond σ (fun a σ' => isTrueP (tr a) (wpSs Φ b σ' (fun fl σ'' => flW fl (∃ m, m < n ∧ I σ'' m) P σ'') X) (P .next σ')) X) : wpS Φ (.whl cond b) σ P X := by
  exact ⟨I, n, h0, h⟩



noncomputable def norm (c : Int) : Int := if c < 0 ∨ 1114111 < c then -2 else c
noncomputable def hd : List Int → Int
  | [] => -1
  | c :: _ => norm c
noncomputable def cda (cs : List Int) (i : Int) : Int := if (cs.length : Int) ≤ i then -1 else match cs[i.toNat]? with | some c => norm c | none => -1
theorem cda_nat (cs : List Int) (p : Nat) : cda cs (p : Int) = hd (cs.drop p) := by
  unfold cda
  by_cases h : cs.length ≤ p
  · rw [if_pos (by lia), List.drop_of_length_le h]; rfl
  · rw [if_neg (by lia)]
    have h' : p < cs.length := by lia
    rw [show ((p : Int)).toNat = p from rfl, List.getElem?_eq_getElem h', List.drop_eq_getElem_cons h']; rfl
theorem cda_nat1 (cs : List Int) (p : Nat) : cda cs ((p : Int) + 1) = hd (cs.drop (p + 1)) := cda_nat cs (p + 1)
theorem cda_nat2 (cs : List Int) (p : Nat) : cda cs ((p : Int) + 2) = hd (cs.drop (p + 2)) := cda_nat cs (p + 2)
theorem cda_nat3 (cs : List Int) (p : Nat) : cda cs ((p : Int) + 3) = hd (cs.drop (p + 3)) := cda_nat cs (p + 3)

section
variable {n : Nat} {c0 : Cell} {cs : List Int} {a o : Int} {Q : AV → List Cell → Prop} {X : Phi → List Cell → Prop}

theorem t_code_at {i : Int} : PhiN rowOf (n + 1) 143 [.ins 1, .int i] [c0, tk cs a o] Q X ↔ (c0.ok = true ∧ cs.length ≤ sizeLine ∧ (i < cs.length → 0 ≤ i ∧ i < 100000) ∧ Q (.int (cda cs i)) [c0, tk cs a o]) := by
  rw [phi_iff' w_Tokenizer_code_at (by decide) rfl, gcOk_tk]
  refine and_congr_right fun h => ?_
  show wpSs _ c_Tokenizer_code_at ⟨[some (.ins 1), some (.int i), none], _⟩ _ _ ↔ _
  unfold c_Tokenizer_code_at
  walk_at "vc"
  simp only [h, true_and]
  refine and_congr_right fun _ => ?_
  unfold cda
  by_cases h1 : (cs.length : Int) ≤ i
  · simp only [h1, if_true, show ¬ (i < cs.length) by lia, false_implies, true_and]
  · simp only [h1, if_false, show (i < cs.length) by lia, true_implies]
    rw [← and_assoc]
    refine and_congr_right fun h2 => ?_
    have hlt : i.toNat < cs.length := by lia
    rw [List.getElem?_map, List.getElem?_eq_getElem hlt]
    rw [Option.map_some]
    walk_at "vc"
    unfold norm
    by_cases h4 : cs[i.toNat] < 0 <;> by_cases h5 : 1114111 < cs[i.toNat] <;> simp [h4, h5, h]

theorem t_ends_at {i : Int} : PhiN rowOf (n + 2) 213 [.ins 1, .int i] [c0, tk cs a o] Q X ↔ (c0.ok = true ∧ cs.length ≤ sizeLine ∧ (i < cs.length → 0 ≤ i ∧ i < 100000) ∧ Q (.bool (decide (cda cs i = -1) || (decide (cda cs i = 37) || isLayoutB (cda cs i)))) [c0, tk cs a o]) := by
  rw [phi_iff' w_Tokenizer_ends_at (by decide) rfl, gcOk_tk]
  refine and_congr_right fun h => ?_
  show wpSs _ c_Tokenizer_ends_at ⟨[some (.ins 1), some (.int i), none], _⟩ _ _ ↔ _
  unfold c_Tokenizer_ends_at
  repeat (first | walk_at "vc" | simp only [t_code_at, t_is_layout, gcOk_tk, h, true_and])
  refine and_congr_right fun _ => and_congr_right fun _ => ?_
  by_cases h1 : cda cs i = -1 <;> by_cases h2 : cda cs i = 37 <;> simp [h1, h2]
end

local macro_rules | `(tactic| walk_at "vmt") => `(tactic| simp only [t_is_layout, t_is_digit, t_is_small, t_is_capital, t_is_alnum, t_is_symbol, t_is_quotable, t_digit_value, t_numeral_base, t_simple_escape, t_code_at, t_ends_at, cda_nat, cda_nat1])
local macro_rules | `(tactic| walk_at "vc") => `(tactic| ((first | walk_at "vmd" | walk_at "vmp" | walk_at "vmt" | walk_at "vx"); repeat (first | walk_at "vmd" | walk_at "vmp" | walk_at "vmt" | walk_at "vx")))
-- V3
noncomputable def raiseP (Φ : Spec1) (kind : Str) (a : AV) (σ' : AS) (X : Phi → AS → Prop) : Prop := intP a fun at_ => dctAt σ'.cells[1]? fun _ => Φ A_place [.ins 1, .int at_] σ'.gc (fun r gc => match r with
        | .tup [.int row, .int col] => X (kind, at_, row, col) (σ'.setG gc)
        | _ => False) (fun _ _ => False)
theorem raiseP_int (Φ : Spec1) (kind : Str) (at_ : Int) (vs : List (Option AV)) (c0 : Cell) (fs : List (Fld × AV)) (r : List Cell) (X : Phi → AS → Prop) : raiseP Φ kind (.int at_) ⟨vs, c0 :: .dct fs :: r⟩ X = Φ A_place [.ins 1, .int at_] [c0, .dct fs] (fun v gc => match v with
        | .tup [.int row, .int col] => X (kind, at_, row, col) (AS.setG ⟨vs, c0 :: .dct fs :: r⟩ gc)
        | _ => False) (fun _ _ => False) := rfl
theorem c_raiseF (Φ : Spec1) (vs : List (Option AV)) (c0 : Cell) (fs : List (Fld × AV)) (r : List Cell) (P : AF → AS → Prop) (X : Phi → AS → Prop) (kind : Str) (e : CE) :
    wpS Φ (.raiseF kind e) ⟨some (.ins 1) :: vs, c0 :: .dct fs :: r⟩ P X = wpE Φ e ⟨some (.ins 1) :: vs, c0 :: .dct fs :: r⟩ (fun a σ' => raiseP Φ kind a σ' X) X := rfl

noncomputable def plStep (s : Int × Int) (x : Int) : Int × Int := if x = 10 then (s.1 + 1, 1) else (s.1, s.2 + 1)
noncomputable def placeF (l : List Int) : Int × Int := l.foldl plStep (1, 1)
theorem placeF_succ {cs : List Int} {j : Nat} (h : j < cs.length) : placeF (cs.take (j + 1)) = plStep (placeF (cs.take j)) cs[j] := by
  unfold placeF
  rw [List.take_succ_eq_append_getElem h, List.foldl_append]; rfl

section
variable {n : Nat} {c0 : Cell} {cs : List Int} {a o : Int} {Q : AV → List Cell → Prop} {X : Phi → List Cell → Prop}

theorem s_place (h : c0.ok = true) (hf : cs.length ≤ 50000) {p : Nat} (k : Q (.tup [.int (placeF (cs.take p)).1, .int (placeF (cs.take p)).2]) [c0, tk cs a o]) : PhiN rowOf (n + 1) 150 [.ins 1, .int p] [c0, tk cs a o] Q X := by
  have hsz : cs.length ≤ sizeLine := by rw [sizeLine_val]; lia
  rw [phi_iff' w_Tokenizer_place (by decide) rfl, gcOk_tk]
  refine ⟨h, ?_⟩
  show wpSs _ c_Tokenizer_place ⟨[some (.ins 1), some (.int p), none, none, none], _⟩ _ _
  unfold c_Tokenizer_place
  walk_at "vc"
  refine c_whl (fun σ m => ∃ j : Nat, j ≤ p ∧ j ≤ cs.length ∧ m = cs.length - j ∧ σ = ⟨[some (.ins 1), some (.int p), some (.int (placeF (cs.take j)).1), some (.int (placeF (cs.take j)).2), some (.int j)], [c0, tk cs a o]⟩) cs.length ⟨0, Nat.zero_le _, Nat.zero_le _, rfl, rfl⟩ ?_
  rintro σ m ⟨j, hjp, hjl, rfl, rfl⟩
  walk_at "vc"
  simp only [h, hsz, true_and]
  have fin : ¬ (j < p ∧ j < cs.length) → Q (.tup [.int (placeF (cs.take j)).1, .int (placeF (cs.take j)).2]) [c0, tk cs a o] := by
    intro hn
    have : cs.take j = cs.take p := by
      by_cases h1 : j = p
      · rw [h1]
      · have : j = cs.length := by lia
        rw [this, List.take_length, List.take_of_length_le (by lia)]
    rw [this]; exact k
  by_cases h1 : (j : Int) < p
  · simp only [h1, if_true]
    by_cases h2 : (j : Int) < cs.length
    · simp only [h2, if_true]
      have hj : j < cs.length := by lia
      refine ⟨by lia, by lia, ?_⟩
      rw [Int.toNat_natCast, List.getElem?_map, List.getElem?_eq_getElem hj, Option.map_some]
      walk_at "vc"
      have e := placeF_succ hj
      have hs : ∃ m, m < cs.length - j ∧ ∃ j', j' ≤ p ∧ j' ≤ cs.length ∧ m = cs.length - j' ∧ j' = j + 1 := ⟨cs.length - (j + 1), by lia, j + 1, by lia, by lia, rfl, rfl⟩
      obtain ⟨m, hm, j', q1, q2, q3, rfl⟩ := hs
      by_cases h3 : cs[j] = 10
      · simp only [h3, if_true]
        refine ⟨m, hm, j + 1, q1, q2, q3, ?_⟩
        rw [e]; unfold plStep; rw [if_pos h3]; rfl
      · simp only [h3, if_false]
        refine ⟨m, hm, j + 1, q1, q2, q3, ?_⟩
        rw [e]; unfold plStep; rw [if_neg h3]; rfl
    · simp only [h2, if_false]
      refine ⟨by decide, fin (by lia)⟩
  · simp only [h1, if_false]
    exact ⟨by decide, fin (by lia)⟩

noncomputable def skipRowN : List Int → Nat
  | [] => 0
  | c :: l => if norm c = 10 then 0 else 1 + skipRowN l
theorem norm_ne (c : Int) : norm c ≠ -1 := by unfold norm; split <;> lia
theorem hd_drop {cs : List Int} {j : Nat} (h : j < cs.length) : hd (cs.drop j) = norm cs[j] := by rw [List.drop_eq_getElem_cons h]; rfl
theorem hd_none {cs : List Int} {j : Nat} (h : hd (cs.drop j) = -1) : cs.length ≤ j := by
  by_cases h' : j < cs.length
  · rw [hd_drop h'] at h; exact absurd h (norm_ne _)
  · lia
theorem hd_some {cs : List Int} {j : Nat} (h : hd (cs.drop j) ≠ -1) : j < cs.length := by
  by_cases h' : j < cs.length
  · exact h'
  · exact absurd (by rw [List.drop_of_length_le (by lia)]; rfl) h

theorem s_skip_row (h : c0.ok = true) (hf : cs.length ≤ 50000) {p : Nat} (hp : p ≤ cs.length) (k : Q .non [c0, tk cs ((p + skipRowN (cs.drop p) : Nat) : Int) o]) : PhiN rowOf (n + 2) 185 [.ins 1] [c0, tk cs p o] Q X := by
  have hsz : cs.length ≤ sizeLine := by rw [sizeLine_val]; lia
  rw [phi_iff' w_Tokenizer_skip_row (by decide) rfl, gcOk_tk]
  refine ⟨h, ?_⟩
  show wpSs _ c_Tokenizer_skip_row ⟨[some (.ins 1), none], _⟩ _ _
  unfold c_Tokenizer_skip_row
  walk_at "vc"
  refine c_whl (fun σ m => ∃ (j : Nat) (x : Option AV), j ≤ cs.length ∧ p + skipRowN (cs.drop p) = j + skipRowN (cs.drop j) ∧ m = cs.length - j ∧ σ = ⟨[some (.ins 1), x], [c0, tk cs j o]⟩) (cs.length - p) ⟨p, none, hp, rfl, rfl, rfl⟩ ?_
  rintro σ m ⟨j, x, hjl, he, rfl, rfl⟩
  repeat (first | walk_at "vc" | simp only [t_code_at, cda_nat, cda_nat1, h, hsz, true_and])
  refine ⟨by lia, ?_⟩
  by_cases h1 : hd (cs.drop j) = -1
  · have hl := hd_none h1
    have : skipRowN (cs.drop j) = 0 := by rw [List.drop_of_length_le hl]; rfl
    simp only [h1, true_or, if_true]
    rw [he, this] at k
    simpa using k
  · have hj := hd_some h1
    by_cases h2 : hd (cs.drop j) = 10
    · have : skipRowN (cs.drop j) = 0 := by rw [List.drop_eq_getElem_cons hj]; rw [hd_drop hj] at h2; unfold skipRowN; rw [if_pos h2]
      simp only [h2]
      rw [he, this] at k
      simpa using k
    · have : skipRowN (cs.drop j) = 1 + skipRowN (cs.drop (j + 1)) := by rw [List.drop_eq_getElem_cons hj]; rw [hd_drop hj] at h2; rw [skipRowN, if_neg h2]
      simp only [h1, h2, if_false]
      refine ⟨by decide, cs.length - (j + 1), by lia, j + 1, _, by lia, by rw [he, this]; lia, rfl, rfl⟩
end

-- VK
/-! the walk by steps: each continuation has a name, so that a goal stays small -/
theorem phi_in {n : Nat} {f : Addr} {r : Row} {xs : List AV} {gc : List Cell} {Q : AV → List Cell → Prop} {X : Phi → List Cell → Prop} (hr : rowOf f = some r) (hf : f ≠ tokC) (hgc : gcOk gc = true) (hlen : xs.length = r.np)
    (h : wpSs (PhiN rowOf n) r.cs ⟨xs.map some ++ List.replicate (r.nm.length - r.np) none, gc⟩ (finP Q) (finX X)) : PhiN rowOf (n + 1) f xs gc Q X := phi_of hr hf hgc hlen h
theorem closed_iL (l : List Int) : (AV.lst (l.map .int)).closed = true := closedL_ints l
theorem gk {c0 : Cell} {cs : List Int} {a o : Int} (h : c0.ok = true) : gcOk [c0, tk cs a o] = true := by rw [gcOk_tk]; exact h
noncomputable def whC (Φ : Spec1) (b : CSs) (I : AS → Nat → Prop) (n : Nat) (P : AF → AS → Prop) (X : Phi → AS → Prop) (a : AV) (σ : AS) : Prop := isTrueP (tr a) (wpSs Φ b σ (whP I n P) X) (P .next σ)
noncomputable def asP (i : Nat) (P : AF → AS → Prop) (a : AV) (σ : AS) : Prop := P .next (σ.put i a)
noncomputable def asLP (i : Nat) (P : AF → AS → Prop) (xs : List AV) (σ : AS) : Prop := xs.length ≤ 100 ∧ 2 ≤ σ.cells.length ∧ P .next ((σ.new xs).put i (.ref σ.cells.length))
noncomputable def saP (i : Nat) (f : Fld) (P : AF → AS → Prop) (a : AV) (σ : AS) : Prop := insP (σ.get i) σ.cells[1]? fun fs => a.closed = true ∧ fs.length ≤ 10 ∧ P .next (σ.setC 1 (.dct (putF f a fs)))
noncomputable def reP (P : AF → AS → Prop) (a : AV) (σ : AS) : Prop := P (.ret a) σ
noncomputable def exSP (P : AF → AS → Prop) (_ : AV) (σ : AS) : Prop := P .next σ
noncomputable def raP (Φ : Spec1) (kind : Str) (X : Phi → AS → Prop) (a : AV) (σ : AS) : Prop := raiseP Φ kind a σ X
noncomputable def apP (k : Nat) (P : AF → AS → Prop) (v : AV) (σ : AS) : Prop := lstAt σ.cells[k]? fun xs => xs.length ≤ 100000 ∧ P .next (σ.setC k (.lst (xs ++ [v])))
noncomputable def b2P (op : Operator) (x : AV) (Q : AV → AS → Prop) (y : AV) (σ : AS) : Prop := binS op σ x y (fun v => Q v σ)
noncomputable def b1P (Φ : Spec1) (op : Operator) (b : CE) (Q : AV → AS → Prop) (X : Phi → AS → Prop) (x : AV) (σ : AS) : Prop := wpE Φ b σ (b2P op x Q) X
noncomputable def c2P (op : CmpOp) (x : AV) (Q : AV → AS → Prop) (y : AV) (σ : AS) : Prop := cmpS op σ x y (fun v => Q (.bool v) σ)
noncomputable def c1P (Φ : Spec1) (op : CmpOp) (b : CE) (Q : AV → AS → Prop) (X : Phi → AS → Prop) (x : AV) (σ : AS) : Prop := wpE Φ b σ (c2P op x Q) X
noncomputable def anP (Φ : Spec1) (es : CEs) (Q : AV → AS → Prop) (X : Phi → AS → Prop) (x : AV) (σ : AS) : Prop := isTrueP (tr x) (wpB Φ .And es σ Q X) (Q x σ)
noncomputable def orP (Φ : Spec1) (es : CEs) (Q : AV → AS → Prop) (X : Phi → AS → Prop) (x : AV) (σ : AS) : Prop := isTrueP (tr x) (Q x σ) (wpB Φ .Or es σ Q X)
noncomputable def noP (Q : AV → AS → Prop) (a : AV) (σ : AS) : Prop := optP (tr a) (fun b => Q (.bool (!b)) σ)
noncomputable def reK (Q : AV → AS → Prop) (σ : AS) (r : AV) (gc : List Cell) : Prop := Q r (σ.setG gc)
noncomputable def exK (X : Phi → AS → Prop) (σ : AS) (φ : Phi) (gc : List Cell) : Prop := X φ (σ.setG gc)
noncomputable def caP (Φ : Spec1) (f : Addr) (Q : AV → AS → Prop) (X : Phi → AS → Prop) (xs : List AV) (σ : AS) : Prop := AV.closedL xs = true ∧ Φ f xs σ.gc (reK Q σ) (exK X σ)
noncomputable def meP (Φ : Spec1) (f : Addr) (Q : AV → AS → Prop) (X : Phi → AS → Prop) (xs : List AV) (σ : AS) : Prop := AV.closedL xs = true ∧ Φ f (.ins 1 :: xs) σ.gc (reK Q σ) (exK X σ)
noncomputable def co2 (x : AV) (R : List AV → AS → Prop) (xs : List AV) (σ : AS) : Prop := R (x :: xs) σ
noncomputable def coP (Φ : Spec1) (es : CEs) (R : List AV → AS → Prop) (X : Phi → AS → Prop) (x : AV) (σ : AS) : Prop := wpEs Φ es σ (co2 x R) X
noncomputable def tuP (Q : AV → AS → Prop) (xs : List AV) (σ : AS) : Prop := xs.length ≤ 100 ∧ Q (.tup xs) σ
noncomputable def lsP (Q : AV → AS → Prop) (xs : List AV) (σ : AS) : Prop := xs.length ≤ 100 ∧ Q (.lst xs) σ
noncomputable def mx2 (x : AV) (Q : AV → AS → Prop) (y : AV) (σ : AS) : Prop := match x, y with | .int m, .int n => Q (.int (if n > m then n else m)) σ | _, _ => False
noncomputable def mxP (Φ : Spec1) (b : CE) (Q : AV → AS → Prop) (X : Phi → AS → Prop) (x : AV) (σ : AS) : Prop := wpE Φ b σ (mx2 x Q) X
noncomputable def chP (Q : AV → AS → Prop) (x : AV) (σ : AS) : Prop := match x with | .int n => 0 ≤ n ∧ n ≤ 1114111 ∧ Q (.str ⟨#[n.toNat]⟩) σ | _ => False
noncomputable def leP (Q : AV → AS → Prop) (x : AV) (σ : AS) : Prop := optP (σ.items x) (fun xs => xs.length ≤ sizeLine ∧ Q (.int xs.length) σ)
noncomputable def tpP (Q : AV → AS → Prop) (x : AV) (σ : AS) : Prop := optP (σ.items x) (fun xs => xs.length ≤ 100000 ∧ Q (.tup xs) σ)
noncomputable def neP (Q : AV → AS → Prop) (a : AV) (σ : AS) : Prop := match a with | .int n => Q (.int (-n)) σ | _ => False
theorem c_whlK {Φ : Spec1} {cond : CE} {b : CSs} {σ : AS} {P : AF → AS → Prop} {X : Phi → AS → Prop} (I : AS → Nat → Prop) (n : Nat) (h0 : I σ n)
    (h : ∀ σ n, I σ n → wpE Φ cond σ (whC Φ b I n P X) X) : wpS Φ (.whl cond b) σ P X := c_whl I n h0 h
noncomputable def nth : List (Option AV) → Nat → Option AV
  | [], _ => none
  | x :: _, 0 => x
  | _ :: r, n + 1 => nth r n
theorem nth_eq : ∀ (vs : List (Option AV)) (i : Nat), nth vs i = (vs[i]?).join
  | [], _ => rfl
  | x :: r, 0 => by cases x <;> rfl
  | _ :: r, n + 1 => nth_eq r n
noncomputable def nthC : List Cell → Nat → Option Cell
  | [], _ => none
  | x :: _, 0 => some x
  | _ :: r, n + 1 => nthC r n
theorem nthC_eq : ∀ (vs : List Cell) (i : Nat), nthC vs i = vs[i]?
  | [], _ => rfl
  | x :: r, 0 => rfl
  | _ :: r, n + 1 => nthC_eq r n
theorem hd_le2 (l : List Int) : hd l ≤ 1114111 := by
  cases l with
  | nil => decide
  | cons c l => show norm c ≤ _; unfold norm; split <;> omega
section
variable {Φ : Spec1} {σ : AS} {vs : List (Option AV)} {cs : List Cell} {P : AF → AS → Prop} {X : Phi → AS → Prop} {Q : AV → AS → Prop} {I : AS → Nat → Prop} {n i : Nat} {t e ss : CSs} {es : CEs} {R : List AV → AS → Prop}
theorem ifT {b : Bool} (h : b = true) (k : wpSs Φ t σ P X) : ifP Φ t e P X (.bool b) σ := by subst h; exact k
theorem ifF {b : Bool} (h : b = false) (k : wpSs Φ e σ P X) : ifP Φ t e P X (.bool b) σ := by subst h; exact k
theorem ndT {p : Prop} [Decidable p] (h : ¬ p) : (!decide p) = true := by rw [decide_eq_false h]; rfl
theorem ndF {p : Prop} [Decidable p] (h : p) : (!decide p) = false := by rw [decide_eq_true h]; rfl
theorem nlit {x a b : Int} (h : x = a) (hab : Int.beq' a b = false) : ¬ x = b := fun e => by subst h; subst e; rw [show Int.beq' x x = true from Int.beq'_eq_beq x x ▸ beq_self_eq_true x] at hab; cases hab
theorem ifTt (k : wpSs Φ t σ P X) : ifP Φ t e P X (.bool true) σ := k
theorem ifFf (k : wpSs Φ e σ P X) : ifP Φ t e P X (.bool false) σ := k
theorem whT {b : Bool} (h : b = true) (k : wpSs Φ t σ (whP I n P) X) : whC Φ t I n P X (.bool b) σ := by subst h; exact k
theorem whF {b : Bool} (h : b = false) (k : P .next σ) : whC Φ t I n P X (.bool b) σ := by subst h; exact k
theorem anT {b : Bool} (h : b = true) (k : wpB Φ .And es σ Q X) : anP Φ es Q X (.bool b) σ := by subst h; exact k
theorem anF {b : Bool} (h : b = false) (k : Q (.bool false) σ) : anP Φ es Q X (.bool b) σ := by subst h; exact k
theorem orT {b : Bool} (h : b = true) (k : Q (.bool true) σ) : orP Φ es Q X (.bool b) σ := by subst h; exact k
theorem orF {b : Bool} (h : b = false) (k : wpB Φ .Or es σ Q X) : orP Φ es Q X (.bool b) σ := by subst h; exact k
theorem k_if {c : CE} (h : wpE Φ c σ (ifP Φ t e (sqP Φ ss P X) X) X) : wpSs Φ (.cons (.cif c t e) ss) σ P X := h
theorem k_nilq {X2 : Phi → AS → Prop} (h : wpSs Φ ss σ P X) : wpSs Φ .nil σ (sqP Φ ss P X) X2 := h
theorem k_asgc {e1 : CE} (h : wpE Φ e1 σ (asP i (sqP Φ ss P X)) X) : wpSs Φ (.cons (.asg i e1) ss) σ P X := h
theorem k_asq {a : AV} (h : wpSs Φ ss ⟨vs.set i (some a), cs⟩ P X) : asP i (sqP Φ ss P X) a ⟨vs, cs⟩ := h
theorem k_cons {s : CS} (h : wpS Φ s σ (sqP Φ ss P X) X) : wpSs Φ (.cons s ss) σ P X := h
theorem k_nil (h : P .next σ) : wpSs Φ .nil σ P X := h
theorem k_next (h : wpSs Φ ss σ P X) : sqP Φ ss P X .next σ := h
theorem k_brk (h : P .brk σ) : sqP Φ ss P X .brk σ := h
theorem k_ret {v : AV} (h : P (.ret v) σ) : sqP Φ ss P X (.ret v) σ := h
theorem k_wbrk (h : P .next σ) : whP I n P .brk σ := h
theorem k_wret {v : AV} (h : P (.ret v) σ) : whP I n P (.ret v) σ := h
theorem k_as {a : AV} (h : P .next ⟨vs.set i (some a), cs⟩) : asP i P a ⟨vs, cs⟩ := h
theorem k_asgL (h : wpEs Φ es σ (asLP i P) X) : wpS Φ (.asgL i es) σ P X := h
theorem k_cif {c : CE} (h : wpE Φ c σ (ifP Φ t e P X) X) : wpS Φ (.cif c t e) σ P X := h
theorem k_exp {e : CE} (h : wpE Φ e σ (exSP P) X) : wpS Φ (.exp e) σ P X := h
theorem k_ex {a : AV} (h : P .next σ) : exSP P a σ := h
theorem k_retE {e : CE} (h : wpE Φ e σ (reP P) X) : wpS Φ (.ret e) σ P X := h
theorem k_re {a : AV} (h : P (.ret a) σ) : reP P a σ := h
theorem k_ret0 (h : P (.ret .non) σ) : wpS Φ .ret0 σ P X := h
theorem k_brkS (h : P .brk σ) : wpS Φ .brk σ P X := h
theorem k_setAt {f : Fld} {e : CE} (h : wpE Φ e σ (saP i f P) X) : wpS Φ (.setAt i f e) σ P X := h
theorem k_int {x : Int} (h : Q (.int x) σ) : wpE Φ (.int x) σ Q X := h
theorem k_str {x : Str} (h : Q (.str x) σ) : wpE Φ (.str x) σ Q X := h
theorem k_non (h : Q .non σ) : wpE Φ .non σ Q X := h
theorem k_bool {x : Bool} (h : Q (.bool x) σ) : wpE Φ (.bool x) σ Q X := h
theorem k_gint {x : Str} {m : Int} (h : Q (.int m) σ) : wpE Φ (.gint x m) σ Q X := h
theorem k_neg {a : CE} (h : wpE Φ a σ (neP Q) X) : wpE Φ (.neg a) σ Q X := h
theorem k_ne {x : Int} (h : Q (.int (-x)) σ) : neP Q (.int x) σ := h
theorem k_bin {op : Operator} {a b : CE} (h : wpE Φ a σ (b1P Φ op b Q X) X) : wpE Φ (.bin op a b) σ Q X := h
theorem k_b1 {op : Operator} {b : CE} {x : AV} (h : wpE Φ b σ (b2P op x Q) X) : b1P Φ op b Q X x σ := h
theorem k_add {x y : Int} (h : Q (.int (x + y)) σ) : b2P .Add (.int x) Q (.int y) σ := h
theorem k_mul0 {x y : Int} (h2 : IntMulOk x y) (h : Q (.int (x * y)) σ) : b2P .Mult (.int x) Q (.int y) σ := ⟨h2, h⟩
theorem k_cmp {op : CmpOp} {a b : CE} (h : wpE Φ a σ (c1P Φ op b Q X) X) : wpE Φ (.cmp op a b) σ Q X := h
theorem k_c1 {op : CmpOp} {b : CE} {x : AV} (h : wpE Φ b σ (c2P op x Q) X) : c1P Φ op b Q X x σ := h
theorem k_clt {x y : Int} (h : Q (.bool (decide (x < y))) σ) : c2P .Lt (.int x) Q (.int y) σ := h
theorem k_cle {x y : Int} (h : Q (.bool (decide (x ≤ y))) σ) : c2P .LtE (.int x) Q (.int y) σ := h
theorem k_cgt {x y : Int} (h : Q (.bool (decide (y < x))) σ) : c2P .Gt (.int x) Q (.int y) σ := h
theorem k_cge {x y : Int} (h : Q (.bool (decide (y ≤ x))) σ) : c2P .GtE (.int x) Q (.int y) σ := h
theorem k_ceq {x y : Int} (h : Q (.bool (decide (x = y))) σ) : c2P .Eq (.int x) Q (.int y) σ := h
theorem k_cne {x y : Int} (h : Q (.bool (!decide (x = y))) σ) : c2P .NotEq (.int x) Q (.int y) σ := h
theorem k_ceqs {x y : Str} (h : Q (.bool (decide (x = y))) σ) : c2P .Eq (.str x) Q (.str y) σ := h
theorem k_cin {x y : Str} (h : Q (.bool (Txt.contains y x)) σ) : c2P .In (.str x) Q (.str y) σ := h
theorem k_bop {op : BoolOp} (h : wpB Φ op es σ Q X) : wpE Φ (.bop op es) σ Q X := h
theorem k_and {a b : CE} (h : wpE Φ a σ (anP Φ (.cons b es) Q X) X) : wpB Φ .And (.cons a (.cons b es)) σ Q X := h
theorem k_or {a b : CE} (h : wpE Φ a σ (orP Φ (.cons b es) Q X) X) : wpB Φ .Or (.cons a (.cons b es)) σ Q X := h
theorem k_bl {op : BoolOp} {a : CE} (h : wpE Φ a σ Q X) : wpB Φ op (.cons a .nil) σ Q X := h
theorem k_not {a : CE} (h : wpE Φ a σ (noP Q) X) : wpE Φ (.not a) σ Q X := h
theorem k_no {b : Bool} (h : Q (.bool (!b)) σ) : noP Q (.bool b) σ := h
theorem k_call {x : Str} {f : Addr} (h : wpEs Φ es σ (caP Φ f Q X) X) : wpE Φ (.call x f es) σ Q X := h
theorem k_esn (h : R [] σ) : wpEs Φ .nil σ R X := h
theorem k_esc {a : CE} (h : wpE Φ a σ (coP Φ es R X) X) : wpEs Φ (.cons a es) σ R X := h
theorem k_co {x : AV} (h : wpEs Φ es σ (co2 x R) X) : coP Φ es R X x σ := h
theorem k_co2 {x : AV} {xs : List AV} (h : R (x :: xs) σ) : co2 x R xs σ := h
theorem k_tup (h : wpEs Φ es σ (tuP Q) X) : wpE Φ (.tup es) σ Q X := h
theorem k_lst (h : wpEs Φ es σ (lsP Q) X) : wpE Φ (.lst es) σ Q X := h
theorem k_max {a b : CE} (h : wpE Φ a σ (mxP Φ b Q X) X) : wpE Φ (.max a b) σ Q X := h
theorem k_mx1 {b : CE} {x : AV} (h : wpE Φ b σ (mx2 x Q) X) : mxP Φ b Q X x σ := h
theorem k_mx2 {x y : Int} (h : Q (.int (if y > x then y else x)) σ) : mx2 (.int x) Q (.int y) σ := h
theorem k_chr {a : CE} (h : wpE Φ a σ (chP Q) X) : wpE Φ (.chr a) σ Q X := h
theorem k_tuple {a : CE} (h : wpE Φ a σ (tpP Q) X) : wpE Φ (.tuple a) σ Q X := h
theorem k_len {a : CE} (h : wpE Φ a σ (leP Q) X) : wpE Φ (.len a) σ Q X := h
theorem k_reK {a b c d : Cell} {r : List Cell} {v : AV} (h : Q v ⟨vs, c :: d :: r⟩) : reK Q ⟨vs, a :: b :: r⟩ v [c, d] := h
theorem k_exK {a b c d : Cell} {r : List Cell} {φ : Phi} (h : X φ ⟨vs, c :: d :: r⟩) : exK X ⟨vs, a :: b :: r⟩ φ [c, d] := h
theorem k_whtt (h : wpSs Φ t σ (whP I n P) X) : whC Φ t I n P X (.bool true) σ := h
theorem k_var {a : AV} (h : nth vs i = some a) (k : Q a ⟨vs, cs⟩) : wpE Φ (.var i) ⟨vs, cs⟩ Q X := by rw [e_var, ← nth_eq, h]; exact k
theorem k_tu {xs : List AV} (h : Nat.ble xs.length 100 = true) (k : Q (.tup xs) σ) : tuP Q xs σ := ⟨Nat.le_of_ble_eq_true h, k⟩
theorem k_ls {xs : List AV} (h : Nat.ble xs.length 100 = true) (k : Q (.lst xs) σ) : lsP Q xs σ := ⟨Nat.le_of_ble_eq_true h, k⟩
theorem k_asL {xs : List AV} (h : Nat.ble xs.length 100 = true) (h2 : Nat.ble 2 cs.length = true) (k : P .next ⟨vs.set i (some (.ref cs.length)), cs ++ [.lst xs]⟩) : asLP i P xs ⟨vs, cs⟩ := ⟨Nat.le_of_ble_eq_true h, Nat.le_of_ble_eq_true h2, k⟩
theorem k_meth {x : Str} {f : Addr} {a : Cell} {l : List Int} {u o : Int} {r : List Cell} (h : nth vs i = some (.ins 1)) (k : wpEs Φ es ⟨vs, a :: tk l u o :: r⟩ (meP Φ f Q X) X) : wpE Φ (.meth i x f es) ⟨vs, a :: tk l u o :: r⟩ Q X := by rw [e_meth, ← nth_eq, h]; exact k
theorem k_ca {f : Addr} {xs : List AV} {a b : Cell} {r : List Cell} (h : AV.closedL xs = true) (k : Φ f xs [a, b] (reK Q ⟨vs, a :: b :: r⟩) (exK X ⟨vs, a :: b :: r⟩)) : caP Φ f Q X xs ⟨vs, a :: b :: r⟩ := ⟨h, k⟩
theorem k_me {f : Addr} {xs : List AV} {a b : Cell} {r : List Cell} (h : AV.closedL xs = true) (k : Φ f (.ins 1 :: xs) [a, b] (reK Q ⟨vs, a :: b :: r⟩) (exK X ⟨vs, a :: b :: r⟩)) : meP Φ f Q X xs ⟨vs, a :: b :: r⟩ := ⟨h, k⟩
theorem k_at_codes {c0 : Cell} {l : List Int} {x o : Int} {r : List Cell} (h : nth vs i = some (.ins 1)) (k : Q (.lst (l.map .int)) ⟨vs, c0 :: tk l x o :: r⟩) : wpE Φ (.attr i .codes) ⟨vs, c0 :: tk l x o :: r⟩ Q X := by rw [e_attr, ← nth_eq, h]; exact k
theorem k_at_at {c0 : Cell} {l : List Int} {x o : Int} {r : List Cell} (h : nth vs i = some (.ins 1)) (k : Q (.int x) ⟨vs, c0 :: tk l x o :: r⟩) : wpE Φ (.attr i .at) ⟨vs, c0 :: tk l x o :: r⟩ Q X := by rw [e_attr, ← nth_eq, h]; exact k
theorem k_at_origin {c0 : Cell} {l : List Int} {x o : Int} {r : List Cell} (h : nth vs i = some (.ins 1)) (k : Q (.int o) ⟨vs, c0 :: tk l x o :: r⟩) : wpE Φ (.attr i .origin) ⟨vs, c0 :: tk l x o :: r⟩ Q X := by rw [e_attr, ← nth_eq, h]; exact k
theorem k_sa {c0 : Cell} {l : List Int} {x y o : Int} {r : List Cell} (h : nth vs i = some (.ins 1)) (k : P .next ⟨vs, c0 :: tk l y o :: r⟩) : saP i .at P (.int y) ⟨vs, c0 :: tk l x o :: r⟩ := by show insP (vs[i]?).join _ _; rw [← nth_eq, h]; exact ⟨rfl, Nat.le_of_ble_eq_true rfl, k⟩
theorem k_frz {k : Nat} {xs : List AV} (h : nth vs i = some (.ref k)) (h1 : nthC cs k = some (.lst xs)) (h2 : Nat.ble 2 k = true) (q : Q (.lst xs) ⟨vs.set i (some (.lst xs)), cs.set k .dead⟩) : wpE Φ (.frz i) ⟨vs, cs⟩ Q X := by rw [e_frz, ← nth_eq, h]; show lstAt cs[k]? _; rw [← nthC_eq, h1]; exact ⟨Nat.le_of_ble_eq_true h2, q⟩
theorem k_app {k : Nat} {xs : List AV} {e : CE} (h : nth vs i = some (.ref k)) (h1 : nthC cs k = some (.lst xs)) (q : wpE Φ e ⟨vs, cs⟩ (apP k P) X) : wpS Φ (.app i e) ⟨vs, cs⟩ P X := by rw [c_app, ← nth_eq, h]; show lstAt cs[k]? _; rw [← nthC_eq, h1]; exact q
theorem k_ap {k : Nat} {xs : List AV} {v : AV} (h1 : nthC cs k = some (.lst xs)) (h2 : xs.length ≤ 100000) (q : P .next ⟨vs, cs.set k (.lst (xs ++ [v]))⟩) : apP k P v ⟨vs, cs⟩ := by show lstAt cs[k]? _; rw [← nthC_eq, h1]; exact ⟨h2, q⟩
theorem k_fret {Q : AV → List Cell → Prop} {v : AV} {a b : Cell} {r : List Cell} (h : v.closed = true) (h2 : gcOk [a, b] = true) (k : Q v [a, b]) : finP Q (.ret v) ⟨vs, a :: b :: r⟩ := ⟨h, h2, k⟩
theorem k_fx {X : Phi → List Cell → Prop} {φ : Phi} {a b : Cell} {r : List Cell} (h2 : gcOk [a, b] = true) (k : X φ [a, b]) : finX X φ ⟨vs, a :: b :: r⟩ := ⟨h2, k⟩
theorem k_le {l : List Int} (h : l.length ≤ 50000) (k : Q (.int l.length) σ) : leP Q (.lst (l.map .int)) σ := by show _ ∧ _; rw [List.length_map]; exact ⟨by rw [sizeLine_val]; omega, k⟩
theorem k_tp {l : List Int} (h : l.length ≤ 100000) (k : Q (.tup (l.map .int)) σ) : tpP Q (.lst (l.map .int)) σ := by show _ ∧ _; rw [List.length_map]; exact ⟨h, k⟩
theorem k_ch {x : Int} (h : 0 ≤ x) (h2 : x ≤ 1114111) (k : Q (.str ⟨#[x.toNat]⟩) σ) : chP Q (.int x) σ := ⟨h, h2, k⟩
theorem k_raise {kind : Str} {e : CE} {c0 : Cell} {l : List Int} {u o : Int} {r : List Cell} (h : wpE Φ e ⟨some (.ins 1) :: vs, c0 :: tk l u o :: r⟩ (raP Φ kind X) X) : wpS Φ (.raiseF kind e) ⟨some (.ins 1) :: vs, c0 :: tk l u o :: r⟩ P X := by rw [c_raiseF]; exact h
theorem k_cvg {x : Str} {a m : Int} (h : nth vs i = some (.int a)) (k : Q (.bool (decide (a = m))) ⟨vs, cs⟩) : wpE Φ (.cmp .Eq (.var i) (.gint x m)) ⟨vs, cs⟩ Q X := k_cmp (k_var h (k_c1 (k_gint (k_ceq k))))
theorem k_addvi {a m : Int} (h : nth vs i = some (.int a)) (k : Q (.int (a + m)) ⟨vs, cs⟩) : wpE Φ (.bin .Add (.var i) (.int m)) ⟨vs, cs⟩ Q X := k_bin (k_var h (k_b1 (k_int (k_add k))))
theorem k_callv {x : Str} {f : Addr} {u : AV} {a b : Cell} {r : List Cell} (h : nth vs i = some u) (h2 : AV.closedL [u] = true) (k : Φ f [u] [a, b] (reK Q ⟨vs, a :: b :: r⟩) (exK X ⟨vs, a :: b :: r⟩)) : wpE Φ (.call x f (.cons (.var i) .nil)) ⟨vs, a :: b :: r⟩ Q X := k_call (k_esc (k_var h (k_co (k_esn (k_co2 ⟨h2, k⟩)))))
theorem k_meth0 {x : Str} {f : Addr} {a : Cell} {l : List Int} {u o : Int} {r : List Cell} (h : nth vs i = some (.ins 1)) (k : Φ f [.ins 1] [a, tk l u o] (reK Q ⟨vs, a :: tk l u o :: r⟩) (exK X ⟨vs, a :: tk l u o :: r⟩)) : wpE Φ (.meth i x f .nil) ⟨vs, a :: tk l u o :: r⟩ Q X := k_meth h (k_esn ⟨rfl, k⟩)
theorem k_methv {x : Str} {f : Addr} {j : Nat} {u : AV} {a : Cell} {l : List Int} {y o : Int} {r : List Cell} (h : nth vs i = some (.ins 1)) (h1 : nth vs j = some u) (h2 : AV.closedL [u] = true) (k : Φ f [.ins 1, u] [a, tk l y o] (reK Q ⟨vs, a :: tk l y o :: r⟩) (exK X ⟨vs, a :: tk l y o :: r⟩)) : wpE Φ (.meth i x f (.cons (.var j) .nil)) ⟨vs, a :: tk l y o :: r⟩ Q X := k_meth h (k_esc (k_var h1 (k_co (k_esn (k_co2 ⟨h2, k⟩)))))
end
section
variable {n : Nat} {c0 : Cell} {cs : List Int} {a o c : Int} {Q : AV → List Cell → Prop} {X : Phi → List Cell → Prop}
theorem a_is_layout (h : c0.ok = true) (k : Q (.bool (isLayoutB c)) [c0, tk cs a o]) : PhiN rowOf (n + 1) 53 [.int c] [c0, tk cs a o] Q X := t_is_layout.mpr ⟨gk h, k⟩
theorem a_is_digit (h : c0.ok = true) (k : Q (.bool (isDigitB c)) [c0, tk cs a o]) : PhiN rowOf (n + 1) 60 [.int c] [c0, tk cs a o] Q X := t_is_digit.mpr ⟨gk h, k⟩
theorem a_is_small (h : c0.ok = true) (k : Q (.bool (isSmallB c)) [c0, tk cs a o]) : PhiN rowOf (n + 1) 67 [.int c] [c0, tk cs a o] Q X := t_is_small.mpr ⟨gk h, k⟩
theorem a_is_capital (h : c0.ok = true) (k : Q (.bool (isCapitalB c)) [c0, tk cs a o]) : PhiN rowOf (n + 1) 74 [.int c] [c0, tk cs a o] Q X := t_is_capital.mpr ⟨gk h, k⟩
theorem a_is_alnum (h : c0.ok = true) (k : Q (.bool (isAlnumB c)) [c0, tk cs a o]) : PhiN rowOf (n + 2) 81 [.int c] [c0, tk cs a o] Q X := t_is_alnum.mpr ⟨gk h, k⟩
theorem a_is_symbol (h : c0.ok = true) (k : Q (.bool (isSymbolB c)) [c0, tk cs a o]) : PhiN rowOf (n + 1) 88 [.int c] [c0, tk cs a o] Q X := t_is_symbol.mpr ⟨gk h, k⟩
theorem a_is_quotable (h : c0.ok = true) (k : Q (.bool (isQuotableB c)) [c0, tk cs a o]) : PhiN rowOf (n + 1) 95 [.int c] [c0, tk cs a o] Q X := t_is_quotable.mpr ⟨gk h, k⟩
theorem a_code_at (h : c0.ok = true) (hf : cs.length ≤ 50000) {p : Nat} (k : Q (.int (hd (cs.drop p))) [c0, tk cs a o]) : PhiN rowOf (n + 1) 143 [.ins 1, .int (p : Int)] [c0, tk cs a o] Q X := t_code_at.mpr ⟨h, by rw [sizeLine_val]; omega, by omega, by rw [cda_nat]; exact k⟩
theorem a_code_at1 (h : c0.ok = true) (hf : cs.length ≤ 50000) {p : Nat} (k : Q (.int (hd (cs.drop (p + 1)))) [c0, tk cs a o]) : PhiN rowOf (n + 1) 143 [.ins 1, .int ((p : Int) + 1)] [c0, tk cs a o] Q X := a_code_at (p := p + 1) h hf k
theorem a_code_at2 (h : c0.ok = true) (hf : cs.length ≤ 50000) {p : Nat} (k : Q (.int (hd (cs.drop (p + 2)))) [c0, tk cs a o]) : PhiN rowOf (n + 1) 143 [.ins 1, .int ((p : Int) + 2)] [c0, tk cs a o] Q X := a_code_at (p := p + 2) h hf k
theorem a_code_at3 (h : c0.ok = true) (hf : cs.length ≤ 50000) {p : Nat} (k : Q (.int (hd (cs.drop (p + 3)))) [c0, tk cs a o]) : PhiN rowOf (n + 1) 143 [.ins 1, .int ((p : Int) + 3)] [c0, tk cs a o] Q X := a_code_at (p := p + 3) h hf k
theorem a_digit_value (h : c0.ok = true) (k : Q (.int (digitV c)) [c0, tk cs a o]) : PhiN rowOf (n + 2) 102 [.int c] [c0, tk cs a o] Q X := t_digit_value.mpr ⟨gk h, k⟩
theorem a_numeral_base (h : c0.ok = true) (k : Q (.int (numBase c)) [c0, tk cs a o]) : PhiN rowOf (n + 1) 121 [.int c] [c0, tk cs a o] Q X := t_numeral_base.mpr ⟨gk h, k⟩
theorem a_simple_escape (h : c0.ok = true) {l : List Int} (k : Q (.int (simpleEsc (hd l))) [c0, tk cs a o]) : PhiN rowOf (n + 1) 114 [.int (hd l)] [c0, tk cs a o] Q X := t_simple_escape.mpr ⟨gk h, hd_le2 _, k⟩
theorem k_ra {kind : Str} {vs : List (Option AV)} {r : List Cell} {X : Phi → AS → Prop} (h : c0.ok = true) (hf : cs.length ≤ 50000) {p : Nat} (k : X (kind, p, (placeF (cs.take p)).1, (placeF (cs.take p)).2) ⟨vs, c0 :: tk cs a o :: r⟩) : raP (PhiN rowOf (n + 1)) kind X (.int (p : Int)) ⟨vs, c0 :: tk cs a o :: r⟩ := by show raiseP _ _ _ _ _; rw [raiseP_int]; exact s_place h hf k
end

local macro_rules | `(tactic| walk_at "rf") => `(tactic| with_unfolding_all exact rfl)
local macro_rules | `(tactic| walk_at "as") => `(tactic| with_reducible assumption)
local macro_rules | `(tactic| walk_at "gk") => `(tactic| (first | ((with_reducible apply gk); walk_at "as") | walk_at "as"))
local macro_rules | `(tactic| walk_at "cl") => `(tactic| (first | exact closed_iL _ | walk_at "as" | walk_at "rf"))
local macro_rules | `(tactic| walk_at "v1") => `(tactic| (first | ((with_reducible show wpE _ _ _ _ _); first | ((with_reducible first | apply k_cvg | apply k_addvi | apply k_meth0 | apply k_var | apply k_at_codes | apply k_at_at | apply k_at_origin); walk_at "rf") | ((with_reducible first | apply k_callv); walk_at "rf"; walk_at "cl") | ((with_reducible first | apply k_methv); walk_at "rf"; walk_at "rf"; walk_at "cl") | ((with_reducible first | apply k_frz); walk_at "rf"; walk_at "rf"; walk_at "rf") | ((with_reducible first | apply k_meth); walk_at "rf") | (with_reducible first | apply k_int | apply k_str | apply k_non | apply k_bool | apply k_gint | apply k_neg | apply k_bin | apply k_cmp | apply k_bop | apply k_not | apply k_call | apply k_tup | apply k_lst | apply k_max | apply k_chr | apply k_tuple | apply k_len)) | ((with_reducible show wpEs _ _ _ _ _); first | (with_reducible first | apply k_esn | apply k_esc)) | ((with_reducible show wpSs _ _ _ _ _); first | (with_reducible first | apply k_if | apply k_nilq | apply k_asgc | apply k_cons | apply k_nil)) | ((with_reducible show wpS _ _ _ _ _); first | ((with_reducible first | apply k_app); walk_at "rf"; walk_at "rf") | (with_reducible first | apply k_asgL | apply k_cif | apply k_exp | apply k_retE | apply k_ret0 | apply k_brkS | apply k_setAt | apply k_raise)) | ((with_reducible show wpB _ _ _ _ _ _); first | (with_reducible first | apply k_and | apply k_or | apply k_bl)) | ((with_reducible show PhiN _ _ _ _ _ _ _); first | ((with_reducible first | apply a_is_layout | apply a_is_digit | apply a_is_small | apply a_is_capital | apply a_is_alnum | apply a_is_symbol | apply a_is_quotable | apply a_digit_value | apply a_numeral_base | apply a_simple_escape); walk_at "as") | ((with_reducible first | apply a_code_at | apply a_code_at1 | apply a_code_at2 | apply a_code_at3); walk_at "as"; walk_at "as")) | (with_reducible first | apply k_asq | apply k_next | apply k_brk | apply k_ret | apply k_wbrk | apply k_wret | apply k_as | apply k_ex | apply k_re | apply k_ne | apply k_b1 | apply k_add | apply k_c1 | apply k_clt | apply k_cle | apply k_cgt | apply k_cge | apply k_ceq | apply k_cne | apply k_ceqs | apply k_cin | apply k_no | apply k_co | apply k_co2 | apply k_mx1 | apply k_mx2 | apply k_reK | apply k_exK | apply k_whtt) | ((with_reducible first | apply k_mul0 | apply k_le | apply k_tp); walk_at "as") | ((with_reducible first | apply k_tu | apply k_ls | apply k_sa); walk_at "rf") | ((with_reducible first | apply k_asL); walk_at "rf"; walk_at "rf") | ((with_reducible first | apply k_ca | apply k_me); walk_at "cl") | ((with_reducible first | apply k_ap); walk_at "rf"; walk_at "as") | ((with_reducible first | apply k_fret); walk_at "cl"; walk_at "gk") | ((with_reducible first | apply k_fx); walk_at "gk") | ((with_reducible first | apply k_ch | apply k_ra); walk_at "as"; walk_at "as") | dsimp only [List.set_cons_zero, List.set_cons_succ, List.length_cons, List.length_nil, List.cons_append, List.nil_append, Nat.reduceAdd, Nat.zero_add]))
local macro_rules | `(tactic| walk_at "vk") => `(tactic| ((walk_at "v1"); repeat (walk_at "v1")))
local macro_rules | `(tactic| walk_at "cT") => `(tactic| (first | ((with_reducible apply decide_eq_true); walk_at "as") | walk_at "as" | ((with_reducible apply ndT); walk_at "as")))
local macro_rules | `(tactic| walk_at "cF") => `(tactic| (first | ((with_reducible apply decide_eq_false); walk_at "as") | walk_at "as" | ((with_reducible apply decide_eq_false); (with_reducible apply nlit); walk_at "as"; walk_at "rf") | ((with_reducible apply ndF); walk_at "as")))
local macro_rules | `(tactic| walk_at "vbr") => `(tactic| (first | (with_reducible apply ifTt) | (with_reducible apply ifFf) | ((with_reducible first | apply ifT | apply orT | apply anT | apply whT); walk_at "cT") | ((with_reducible first | apply ifF | apply orF | apply anF | apply whF); walk_at "cF")))
local macro_rules | `(tactic| walk_at "vb") => `(tactic| ((first | walk_at "vbr" | walk_at "v1"); repeat (first | walk_at "vbr" | walk_at "v1")))
-- VL
/-! rules for the law's own functions -/
noncomputable def unP (is : List Nat) (P : AF → AS → Prop) (a : AV) (σ : AS) : Prop := match a with | .tup xs => xs.length = is.length ∧ P .next (σ.putAll is xs) | _ => False
noncomputable def agP (i k : Nat) (op : Operator) (P : AF → AS → Prop) (v : AV) (σ : AS) : Prop := augR op v σ.cells[k]? fun zs => P .next ((σ.setC k (.lst zs)).put i (.ref k))
noncomputable def foP (Φ : Spec1) (i : Nat) (b : CSs) (P : AF → AS → Prop) (X : Phi → AS → Prop) (a : AV) (σ : AS) : Prop := lstP a fun xs => forGo (fun σ P => wpSs Φ b σ P X) i P xs σ
noncomputable def frP (Φ : Spec1) (i : Nat) (b : CSs) (P : AF → AS → Prop) (X : Phi → AS → Prop) (a : AV) (σ : AS) : Prop := intP a fun n => 0 ≤ n ∧ n ≤ 1000000 ∧ forGo (fun σ P => wpSs Φ b σ P X) i P ((List.range n.toNat).map fun k : Nat => AV.int (k : Int)) σ
noncomputable def loP (K : AS → Prop) (P : AF → AS → Prop) (fl : AF) (σ : AS) : Prop := flW fl (K σ) P σ
noncomputable def ntP (Φ : Spec1) (Q : AV → AS → Prop) (x : AV) (σ : AS) : Prop := AV.closedL [x] = true ∧ Φ tokC [x] σ.gc (reK Q σ) (fun _ _ => False)
noncomputable def delP (i : Nat) (P : AF → AS → Prop) (fl : AF) (σ : AS) : Prop := P fl (σ.del i)
noncomputable def taP (Φ : Spec1) (i : Nat) (h : CSs) (P : AF → AS → Prop) (X : Phi → AS → Prop) (φ : Phi) (σ : AS) : Prop := wpSs Φ h (σ.put i (.flt φ.1 φ.2.1 φ.2.2.1 φ.2.2.2)) (delP i P) X
noncomputable def sb2P (x : AV) (Q : AV → AS → Prop) (y : AV) (σ : AS) : Prop := match y with
      | .int k => (match x with
        | .str s => 0 ≤ k ∧ k < s.length ∧ k < 100000 ∧ ∃ ch, s.cps[k.toNat]? = some ch ∧ Q (.str ⟨#[ch]⟩) σ
        | x => optP (σ.seq x) (fun xs => 0 ≤ k ∧ k < 100000 ∧ ∃ v, xs[k.toNat]? = some v ∧ Q v σ))
      | _ => False
noncomputable def sb1P (Φ : Spec1) (i : CE) (Q : AV → AS → Prop) (X : Phi → AS → Prop) (x : AV) (σ : AS) : Prop := wpE Φ i σ (sb2P x Q) X
section
variable {Φ : Spec1} {σ : AS} {vs : List (Option AV)} {cs : List Cell} {P : AF → AS → Prop} {X : Phi → AS → Prop} {Q : AV → AS → Prop} {K : AS → Prop} {n i k : Nat} {b : CSs} {es : CEs} {e : CE} {l m : List Int} {xs ys : List AV}
theorem k_ant (h : wpB Φ .And es σ Q X) : anP Φ es Q X (.bool true) σ := h
theorem k_orf (h : wpB Φ .Or es σ Q X) : orP Φ es Q X (.bool false) σ := h
theorem k_unp {is : List Nat} (h : wpE Φ e σ (unP is P) X) : wpS Φ (.unp is e) σ P X := h
theorem k_un4 {a b c d : Nat} {x y z w : AV} (h : P .next ⟨(((vs.set a (some x)).set b (some y)).set c (some z)).set d (some w), cs⟩) : unP [a, b, c, d] P (.tup [x, y, z, w]) ⟨vs, cs⟩ := ⟨rfl, h⟩
theorem k_aug {op : Operator} (h : nth vs i = some (.ref k)) (q : wpE Φ e ⟨vs, cs⟩ (agP i k op P) X) : wpS Φ (.aug i op e) ⟨vs, cs⟩ P X := by rw [c_aug, ← nth_eq, h]; exact q
theorem k_ag (h1 : nthC cs k = some (.lst xs)) (h2 : xs.length + ys.length ≤ 100000) (q : P .next ⟨vs.set i (some (.ref k)), cs.set k (.lst (xs ++ ys))⟩) : agP i k .Add P (.lst ys) ⟨vs, cs⟩ := by
  show augR .Add (.lst ys) cs[k]? _
  rw [← nthC_eq, h1]; exact ⟨h2, q⟩
theorem k_agI (h1 : nthC cs k = some (.lst (l.map .int))) (h2 : l.length + m.length ≤ 100000) (q : P .next ⟨vs.set i (some (.ref k)), cs.set k (.lst ((l ++ m).map .int))⟩) : agP i k .Add P (.lst (m.map .int)) ⟨vs, cs⟩ :=
  k_ag h1 (by rw [List.length_map, List.length_map]; exact h2) (by rw [← List.map_append]; exact q)
theorem k_apI {x : Int} (h1 : nthC cs k = some (.lst (l.map .int))) (h2 : l.length ≤ 100000) (q : P .next ⟨vs, cs.set k (.lst ((l ++ [x]).map .int))⟩) : apP k P (.int x) ⟨vs, cs⟩ :=
  k_ap h1 (by rw [List.length_map]; exact h2) (by rw [List.map_append] at q; exact q)
theorem k_leR (h : nthC cs k = some (.lst (l.map .int))) (h2 : l.length ≤ 50000) (q : Q (.int l.length) ⟨vs, cs⟩) : leP Q (.ref k) ⟨vs, cs⟩ := by
  have e : (⟨vs, cs⟩ : AS).items (.ref k) = (⟨vs, cs⟩ : AS).items (.lst (l.map .int)) := by show (match cs[k]? with | some (.lst xs) => some xs | _ => none) = _; rw [← nthC_eq, h]; rfl
  unfold leP; rw [e]; exact k_le h2 q
theorem k_slA (h : nth vs i = some (.ref k)) (h1 : nthC cs k = some (.lst (l.map .int))) (h2 : l.length ≤ 50000) (q : Q (.lst (l.map .int)) ⟨vs, cs⟩) : wpE Φ (.slice (.var i) none none none none) ⟨vs, cs⟩ Q X := by
  have e : (⟨vs, cs⟩ : AS).items (.ref k) = some (l.map .int) := by show (match cs[k]? with | some (.lst xs) => some xs | _ => none) = _; rw [← nthC_eq, h1]
  rw [e_slice]
  refine k_var h ?_
  rw [e, part_none, sliceP_some]
  refine ⟨by rw [List.length_map, sizeLine_val]; lia, ?_⟩
  show Q (.lst (List.drop 0 (List.take (l.map AV.int).length (l.map AV.int)))) _
  rw [List.drop_zero, List.take_of_length_le (Nat.le_refl _)]; exact q
theorem k_forL (h : wpE Φ e σ (foP Φ i b P X) X) : wpS Φ (.forL i e b) σ P X := by obtain ⟨vs, cs⟩ := σ; rw [c_forL]; exact h
theorem k_fo (h : forGo (fun σ P => wpSs Φ b σ P X) i P xs σ) : foP Φ i b P X (.lst xs) σ := h
theorem k_forR (h : wpE Φ e σ (frP Φ i b P X) X) : wpS Φ (.forR i e b) σ P X := by obtain ⟨vs, cs⟩ := σ; rw [c_forR]; exact h
theorem k_fr {m : Int} (h1 : 0 ≤ m) (h2 : m ≤ 1000000) (h : forGo (fun σ P => wpSs Φ b σ P X) i P ((List.range m.toNat).map fun k : Nat => AV.int (k : Int)) σ) : frP Φ i b P X (.int m) σ := ⟨h1, h2, h⟩
theorem k_lo (h : K σ) : loP K P .next σ := h
theorem k_newTok (h : wpE Φ e σ (ntP Φ Q) X) : wpE Φ (.newTok e) σ Q X := by obtain ⟨vs, cs⟩ := σ; rw [e_newTok]; exact h
theorem k_nt {x : AV} {a b : Cell} {r : List Cell} (h : AV.closedL [x] = true) (q : Φ tokC [x] [a, b] (reK Q ⟨vs, a :: b :: r⟩) (fun _ _ => False)) : ntP Φ Q x ⟨vs, a :: b :: r⟩ := ⟨h, q⟩
theorem k_tryA {h : CSs} (q : wpSs Φ b σ P (taP Φ i h P X)) : wpS Φ (.tryA b i h) σ P X := by obtain ⟨vs, cs⟩ := σ; rw [c_tryA]; exact q
theorem k_ta {h : CSs} {kd : Str} {u v w : Int} (q : wpSs Φ h ⟨vs.set i (some (.flt kd u v w)), cs⟩ (delP i P) X) : taP Φ i h P X (kd, u, v, w) ⟨vs, cs⟩ := q
theorem k_del {fl : AF} (q : P fl ⟨vs.set i none, cs⟩) : delP i P fl ⟨vs, cs⟩ := q
theorem k_fkd {kd : Str} {u v w : Int} (h : nth vs i = some (.flt kd u v w)) (q : Q (.str kd) ⟨vs, cs⟩) : wpE Φ (.attr i .kind) ⟨vs, cs⟩ Q X := by rw [e_attr, ← nth_eq, h]; exact q
theorem k_fat {kd : Str} {u v w : Int} (h : nth vs i = some (.flt kd u v w)) (q : Q (.int u) ⟨vs, cs⟩) : wpE Φ (.attr i .at) ⟨vs, cs⟩ Q X := by rw [e_attr, ← nth_eq, h]; exact q
theorem k_frw {kd : Str} {u v w : Int} (h : nth vs i = some (.flt kd u v w)) (q : Q (.int v) ⟨vs, cs⟩) : wpE Φ (.attr i .row) ⟨vs, cs⟩ Q X := by rw [e_attr, ← nth_eq, h]; exact q
theorem k_fcl {kd : Str} {u v w : Int} (h : nth vs i = some (.flt kd u v w)) (q : Q (.int w) ⟨vs, cs⟩) : wpE Φ (.attr i .column) ⟨vs, cs⟩ Q X := by rw [e_attr, ← nth_eq, h]; exact q
theorem k_sb2 {x y z : AV} (h : nth vs i = some (.tup [x, y, z])) (q : Q z ⟨vs, cs⟩) : wpE Φ (.sub (.var i) (.int 2)) ⟨vs, cs⟩ Q X := by rw [e_sub, e_var, ← nth_eq, h]; exact ⟨by decide, by decide, z, rfl, q⟩
theorem k_frzL (h : nth vs i = some (.lst xs)) (q : Q (.lst xs) ⟨vs, cs⟩) : wpE Φ (.frz i) ⟨vs, cs⟩ Q X := by rw [e_frz, ← nth_eq, h]; exact q
theorem k_addLL (h1 : xs.length + ys.length ≤ 50000) (h : Q (.lst (xs ++ ys)) σ) : b2P .Add (.lst xs) Q (.lst ys) σ := ⟨by rw [sizeLine_val]; lia, h⟩
theorem k_addI (h1 : l.length + m.length ≤ 50000) (h : Q (.lst ((l ++ m).map .int)) σ) : b2P .Add (.lst (l.map .int)) Q (.lst (m.map .int)) σ := k_addLL (by rw [List.length_map, List.length_map]; exact h1) (by rw [← List.map_append]; exact h)
theorem k_lsI1 {x : Int} (h : Q (.lst ([x].map .int)) σ) : lsP Q [.int x] σ := ⟨Nat.le_of_ble_eq_true rfl, h⟩
theorem k_lsI2 {x y : Int} (h : Q (.lst ([x, y].map .int)) σ) : lsP Q [.int x, .int y] σ := ⟨Nat.le_of_ble_eq_true rfl, h⟩
theorem k_sbx {a : CE} (h : wpE Φ a σ (sb1P Φ e Q X) X) : wpE Φ (.sub a e) σ Q X := by obtain ⟨vs, cs⟩ := σ; rw [e_sub]; exact h
theorem k_s1 {x : AV} (h : wpE Φ e σ (sb2P x Q) X) : sb1P Φ e Q X x σ := h
theorem k_s2 {z : Int} {v : AV} (h1 : 0 ≤ z) (h2 : z < 100000) (hv : xs[z.toNat]? = some v) (h : Q v σ) : sb2P (.lst xs) Q (.int z) σ := ⟨h1, h2, v, hv, h⟩
theorem k_addN {a b : Nat} (h : Q (.int ((a + b : Nat) : Int)) σ) : b2P .Add (.int (a : Int)) Q (.int (b : Int)) σ := h
theorem k_forN {m : Int} (I : Nat → AS → Prop) (h0 : I 0 σ) (hs : ∀ (j : Nat) (σ' : AS) (K : AS → Prop), (j : Int) < m → I j σ' → (∀ σ'', I (j + 1) σ'' → K σ'') → wpSs Φ b ⟨σ'.vars.set i (some (.int j)), σ'.cells⟩ (loP K P) X)
    (hP : ∀ σ', I m.toNat σ' → P .next σ') : forGo (fun σ P => wpSs Φ b σ P X) i P ((List.range m.toNat).map fun k : Nat => AV.int (k : Int)) σ := by
  refine forGo_inv I _ 0 σ h0 (fun j σ' K h hI hK => ?_) (fun σ' hI => hP σ' (by rw [Nat.zero_add, List.length_map, List.length_range] at hI; exact hI))
  rw [Nat.zero_add] at hI hK
  rw [List.length_map, List.length_range] at h
  have := hs j σ' K (by lia) hI hK
  rw [List.getElem_map, List.getElem_range]
  exact this
end

local macro_rules | `(tactic| walk_at "lt") => `(tactic| (first | walk_at "as" | lia | exact Nat.le_of_ble_eq_true rfl))
local macro_rules | `(tactic| walk_at "w1") => `(tactic| (first | ((with_reducible show wpE _ _ _ _ _); first | ((with_reducible first | apply k_slA); walk_at "rf"; walk_at "rf"; walk_at "lt") | ((with_reducible first | apply k_fkd | apply k_fat | apply k_frw | apply k_fcl | apply k_sb2 | apply k_frzL); walk_at "rf") | (with_reducible first | apply k_newTok | apply k_sbx)) | ((with_reducible show wpS _ _ _ _ _); first | ((with_reducible apply k_aug); walk_at "rf") | (with_reducible first | apply k_unp | apply k_forL | apply k_forR | apply k_tryA)) | (with_reducible first | apply k_un4 | apply k_lsI1 | apply k_lsI2 | apply k_s1 | apply k_addN | apply k_fo | apply k_lo | apply k_ta | apply k_del | apply k_ant | apply k_orf) | ((with_reducible first | apply k_agI | apply k_ag | apply k_apI | apply k_ap | apply k_leR); walk_at "rf"; walk_at "lt") | ((with_reducible apply k_nt); walk_at "cl") | ((with_reducible apply k_addI); walk_at "lt") | walk_at "v1"))
local macro_rules | `(tactic| walk_at "wk") => `(tactic| ((walk_at "w1"); repeat (walk_at "w1")))
local macro_rules | `(tactic| walk_at "wb") => `(tactic| ((first | walk_at "vbr" | walk_at "w1"); repeat (first | walk_at "vbr" | walk_at "w1")))
-- V4
noncomputable def skipRemN : List Int → Option Nat
  | [] => none
  | c :: l => if norm c = 42 ∧ hd l = 47 then some 2 else (skipRemN l).map (· + 1)
theorem skipRemN_le : ∀ {l : List Int} {r : Nat}, skipRemN l = some r → r ≤ l.length
  | c :: l, r, h => by
    unfold skipRemN at h
    split at h
    · rename_i h2
      cases h
      cases l with
      | nil => exact absurd h2.2 (by decide)
      | cons _ _ => simp
    · obtain ⟨r', h1, rfl⟩ := Option.map_eq_some_iff.mp h
      have := skipRemN_le h1
      simp; lia
theorem skipRowN_le : ∀ (l : List Int), skipRowN l ≤ l.length
  | [] => Nat.le_refl _
  | c :: l => by unfold skipRowN; have := skipRowN_le l; split <;> simp <;> lia

inductive SkipL : List Int → Nat → Prop
  | stop {l : List Int} : isLayoutB (hd l) = false → hd l ≠ 37 → ¬ (hd l = 47 ∧ hd (l.drop 1) = 42) → SkipL l 0
  | lay {l : List Int} {k : Nat} : isLayoutB (hd l) = true → SkipL (l.drop 1) k → SkipL l (1 + k)
  | row {l : List Int} {k : Nat} : hd l = 37 → SkipL (l.drop (skipRowN l)) k → SkipL l (skipRowN l + k)
  | rem {l : List Int} {r k : Nat} : hd l = 47 → hd (l.drop 1) = 42 → skipRemN (l.drop 2) = some r → SkipL (l.drop (2 + r)) k → SkipL l (2 + r + k)
inductive SkipLF : List Int → Nat → Prop
  | bad {l : List Int} : hd l = 47 → hd (l.drop 1) = 42 → skipRemN (l.drop 2) = none → SkipLF l 0
  | lay {l : List Int} {k : Nat} : isLayoutB (hd l) = true → SkipLF (l.drop 1) k → SkipLF l (1 + k)
  | row {l : List Int} {k : Nat} : hd l = 37 → SkipLF (l.drop (skipRowN l)) k → SkipLF l (skipRowN l + k)
  | rem {l : List Int} {r k : Nat} : hd l = 47 → hd (l.drop 1) = 42 → skipRemN (l.drop 2) = some r → SkipLF (l.drop (2 + r)) k → SkipLF l (2 + r + k)

section
variable {n : Nat} {c0 : Cell} {cs : List Int} {a o : Int} {Q : AV → List Cell → Prop} {X : Phi → List Cell → Prop}

noncomputable def RInv (cs : List Int) (o : Int) (c0 : Cell) (p : Nat) (σ : AS) (m : Nat) : Prop :=
  ∃ (j : Nat) (x : Option AV), p + 2 ≤ j ∧ j ≤ cs.length ∧ (skipRemN (cs.drop (p + 2))).map (· + (p + 2)) = (skipRemN (cs.drop j)).map (· + j) ∧ m = cs.length - j ∧ σ = ⟨[some (.ins 1), some (.int p), x], [c0, tk cs j o]⟩
theorem RInv.mk' {cs : List Int} {o : Int} {c0 : Cell} {p j : Nat} {x : Option AV} (hj : j < cs.length) (hpj : p + 2 ≤ j) (he : (skipRemN (cs.drop (p + 2))).map (· + (p + 2)) = (skipRemN (cs.drop j)).map (· + j)) (hs : skipRemN (cs.drop j) = (skipRemN (cs.drop (j + 1))).map (· + 1)) (P : AF → AS → Prop) :
    whP (RInv cs o c0 p) (cs.length - j) P .next ⟨[some (.ins 1), some (.int p), x], [c0, tk cs ((j : Int) + 1) o]⟩ := by
  refine ⟨cs.length - (j + 1), by lia, j + 1, x, Nat.le_succ_of_le hpj, hj, ?_, rfl, rfl⟩
  rw [he, hs, Option.map_map]
  congr 1
  funext x
  show x + 1 + j = x + (j + 1)
  rw [Nat.add_assoc, Nat.add_comm 1]
theorem s_skip_remark (h : c0.ok = true) (hf : cs.length ≤ 50000) {p : Nat} (hp : p + 2 ≤ cs.length) (k1 : ∀ r, skipRemN (cs.drop (p + 2)) = some r → Q .non [c0, tk cs ((p + 2 + r : Nat) : Int) o])
    (k2 : skipRemN (cs.drop (p + 2)) = none → X ("unfinished_remark", p, (placeF (cs.take p)).1, (placeF (cs.take p)).2) [c0, tk cs (cs.length : Nat) o]) : PhiN rowOf (n + 2) 192 [.ins 1] [c0, tk cs p o] Q X := by
  refine phi_in (r := r_Tokenizer_skip_remark) w_Tokenizer_skip_remark (by decide) (gk h) rfl ?_
  show wpSs _ c_Tokenizer_skip_remark ⟨[some (.ins 1), none, none], _⟩ _ _
  unfold c_Tokenizer_skip_remark
  walk_at "vk"
  refine c_whlK (RInv cs o c0 p) (cs.length - (p + 2)) ⟨p + 2, none, Nat.le_refl _, hp, rfl, rfl, rfl⟩ ?_
  rintro σ m ⟨j, x, hpj, hjl, he, rfl, rfl⟩
  by_cases h1 : hd (cs.drop j) = -1
  · have hl := hd_none h1
    have hje : j = cs.length := Nat.le_antisymm hjl hl
    have hn : skipRemN (cs.drop j) = none := by rw [List.drop_of_length_le hl]; rfl
    rw [hn] at he
    have hn2 : skipRemN (cs.drop (p + 2)) = none := by
      cases hq : skipRemN (cs.drop (p + 2)) with
      | none => rfl
      | some _ => rw [hq] at he; cases he
    rw [← hje] at k2
    walk_at "vb"
    exact k2 hn2
  · have hj := hd_some h1
    by_cases h2 : hd (cs.drop j) = 42
    · by_cases h3 : hd (cs.drop (j + 1)) = 47
      · have hs : skipRemN (cs.drop j) = some 2 := by
          rw [List.drop_eq_getElem_cons hj]
          rw [hd_drop hj] at h2
          rw [skipRemN, if_pos ⟨h2, h3⟩]
        rw [hs] at he
        obtain ⟨r, hr, hr2⟩ := Option.map_eq_some_iff.mp (he.trans rfl)
        have hr2 : r + (p + 2) = 2 + j := hr2
        have := k1 r hr
        rw [Nat.add_comm (p + 2), hr2, Nat.add_comm 2] at this
        walk_at "vb"
        exact this
      · have hs : skipRemN (cs.drop j) = (skipRemN (cs.drop (j + 1))).map (· + 1) := by
          rw [List.drop_eq_getElem_cons hj, skipRemN, if_neg (fun q => h3 q.2)]
        walk_at "vb"
        exact RInv.mk' hj hpj he hs _
    · have hs : skipRemN (cs.drop j) = (skipRemN (cs.drop (j + 1))).map (· + 1) := by
        rw [List.drop_eq_getElem_cons hj]
        rw [hd_drop hj] at h2
        rw [skipRemN, if_neg (fun q => h2 q.1)]
      walk_at "vb"
      exact RInv.mk' hj hpj he hs _
theorem lay_some {l : List Int} (h : isLayoutB (hd l) = true) : hd l ≠ -1 := by intro q; rw [q] at h; exact absurd h (by decide)

noncomputable def LInv (S : List Int → Nat → Prop) (cs : List Int) (o : Int) (c0 : Cell) (e : Nat) (σ : AS) (m : Nat) : Prop :=
  ∃ (j k' : Nat) (x : Option AV), j ≤ cs.length ∧ S (cs.drop j) k' ∧ j + k' = e ∧ m = cs.length - j ∧ σ = ⟨[some (.ins 1), x], [c0, tk cs j o]⟩
theorem LInv.mk' {S : List Int → Nat → Prop} {cs : List Int} {o : Int} {c0 : Cell} {e j k' : Nat} {x : Option AV} (hj : j < cs.length) (d : Nat) (hd : 0 < d) (h1 : j + d ≤ cs.length) (h2 : S (cs.drop (j + d)) k') (he : j + (d + k') = e) {t : Int} (ht : t = ((j + d : Nat) : Int)) (P : AF → AS → Prop) :
    whP (LInv S cs o c0 e) (cs.length - j) P .next ⟨[some (.ins 1), x], [c0, tk cs t o]⟩ :=
  ⟨cs.length - (j + d), Nat.sub_lt_sub_left hj (Nat.lt_add_of_pos_right hd), j + d, k', x, h1, h2, by rw [Nat.add_assoc]; exact he, rfl, by rw [ht]⟩
theorem lay_row {cs : List Int} {j : Nat} (hj : j < cs.length) (a1 : hd (cs.drop j) = 37) : 0 < skipRowN (cs.drop j) ∧ j + skipRowN (cs.drop j) ≤ cs.length := by
  have hle := skipRowN_le (cs.drop j)
  rw [List.length_drop] at hle
  rw [hd_drop hj] at a1
  refine ⟨?_, by lia⟩
  rw [List.drop_eq_getElem_cons hj, skipRowN, if_neg (by rw [a1]; decide)]; lia
theorem lay_rem {cs : List Int} {j r : Nat} (h : j + 2 ≤ cs.length) (a3 : skipRemN (cs.drop (j + 2)) = some r) : j + (2 + r) ≤ cs.length := by
  have hle := skipRemN_le a3
  rw [List.length_drop] at hle; lia
theorem s_skip_layout (h : c0.ok = true) (hf : cs.length ≤ 50000) {p : Nat} (hp : p ≤ cs.length) {k : Nat} (hk : SkipL (cs.drop p) k) (q : Q .non [c0, tk cs ((p + k : Nat) : Int) o]) : PhiN rowOf (n + 3) 178 [.ins 1] [c0, tk cs p o] Q X := by
  refine phi_in (r := r_Tokenizer_skip_layout) w_Tokenizer_skip_layout (by decide) (gk h) rfl ?_
  show wpSs _ c_Tokenizer_skip_layout ⟨[some (.ins 1), none], _⟩ _ _
  unfold c_Tokenizer_skip_layout
  walk_at "vk"
  refine c_whlK (LInv SkipL cs o c0 (p + k)) (cs.length - p) ⟨p, k, none, hp, hk, rfl, rfl, rfl⟩ ?_
  rintro σ m ⟨j, k', x, hjl, hk', he, rfl, rfl⟩
  generalize hcd : cs.drop j = l at hk'
  walk_at "vk"
  cases hk' with
  | stop a1 a2 a3 =>
    rw [← hcd] at a1 a2 a3
    rw [← he] at q
    by_cases h1 : hd (cs.drop j) = 47
    · have h2 : ¬ hd (cs.drop (j + 1)) = 42 := fun q => a3 ⟨h1, by rw [List.drop_drop]; exact q⟩
      walk_at "vb"
      exact q
    · walk_at "vb"
      exact q
  | lay a1 a2 =>
    rw [← hcd] at a1 a2
    rw [List.drop_drop] at a2
    have hj := hd_some (lay_some a1)
    walk_at "vb"
    exact LInv.mk' hj 1 (by decide) hj a2 he rfl _
  | row a1 a2 =>
    rw [← hcd] at a1 a2 he
    have hj := hd_some (show hd (cs.drop j) ≠ -1 by rw [a1]; decide)
    have a3 : isLayoutB (hd (cs.drop j)) = false := by rw [a1]; decide
    rw [List.drop_drop] at a2
    have hr := lay_row hj a1
    walk_at "vb"
    refine s_skip_row h hf hjl ?_
    walk_at "vb"
    exact LInv.mk' hj _ hr.1 hr.2 a2 he rfl _
  | rem a1 a2 a3 a4 =>
    rw [← hcd] at a1 a2 a3 a4
    have hj := hd_some (show hd (cs.drop j) ≠ -1 by rw [a1]; decide)
    have h47 : isLayoutB (hd (cs.drop j)) = false := by rw [a1]; decide
    rw [List.drop_drop] at a2 a3 a4
    have hj1 := hd_some (show hd (cs.drop (j + 1)) ≠ -1 by rw [a2]; decide)
    walk_at "vb"
    refine s_skip_remark h hf hj1 (fun r' hr' => ?_) (fun hn => by rw [a3] at hn; cases hn)
    rw [a3] at hr'; cases hr'
    walk_at "vb"
    exact LInv.mk' hj _ (Nat.lt_of_lt_of_le (by decide) (Nat.le_add_right 2 _)) (lay_rem hj1 a3) a4 he (by rw [Nat.add_assoc]) _
theorem s_skip_layout_bad (h : c0.ok = true) (hf : cs.length ≤ 50000) {p : Nat} (hp : p ≤ cs.length) {k : Nat} (hk : SkipLF (cs.drop p) k) (q : X ("unfinished_remark", (p + k : Nat), (placeF (cs.take (p + k))).1, (placeF (cs.take (p + k))).2) [c0, tk cs (cs.length : Nat) o]) : PhiN rowOf (n + 3) 178 [.ins 1] [c0, tk cs p o] Q X := by
  refine phi_in (r := r_Tokenizer_skip_layout) w_Tokenizer_skip_layout (by decide) (gk h) rfl ?_
  show wpSs _ c_Tokenizer_skip_layout ⟨[some (.ins 1), none], _⟩ _ _
  unfold c_Tokenizer_skip_layout
  walk_at "vk"
  refine c_whlK (LInv SkipLF cs o c0 (p + k)) (cs.length - p) ⟨p, k, none, hp, hk, rfl, rfl, rfl⟩ ?_
  rintro σ m ⟨j, k', x, hjl, hk', he, rfl, rfl⟩
  generalize hcd : cs.drop j = l at hk'
  walk_at "vk"
  cases hk' with
  | bad a1 a2 a3 =>
    rw [← hcd] at a1 a2 a3
    have h47 : isLayoutB (hd (cs.drop j)) = false := by rw [a1]; decide
    rw [List.drop_drop] at a2 a3
    have hj1 := hd_some (show hd (cs.drop (j + 1)) ≠ -1 by rw [a2]; decide)
    walk_at "vb"
    refine s_skip_remark h hf hj1 (fun r' hr' => by rw [a3] at hr'; cases hr') (fun hn => ?_)
    walk_at "vb"
    rw [← he] at q
    exact q
  | lay a1 a2 =>
    rw [← hcd] at a1 a2
    rw [List.drop_drop] at a2
    have hj := hd_some (lay_some a1)
    walk_at "vb"
    exact LInv.mk' hj 1 (by decide) hj a2 he rfl _
  | row a1 a2 =>
    rw [← hcd] at a1 a2 he
    have hj := hd_some (show hd (cs.drop j) ≠ -1 by rw [a1]; decide)
    have a3 : isLayoutB (hd (cs.drop j)) = false := by rw [a1]; decide
    rw [List.drop_drop] at a2
    have hr := lay_row hj a1
    walk_at "vb"
    refine s_skip_row h hf hjl ?_
    walk_at "vb"
    exact LInv.mk' hj _ hr.1 hr.2 a2 he rfl _
  | rem a1 a2 a3 a4 =>
    rw [← hcd] at a1 a2 a3 a4
    have hj := hd_some (show hd (cs.drop j) ≠ -1 by rw [a1]; decide)
    have h47 : isLayoutB (hd (cs.drop j)) = false := by rw [a1]; decide
    rw [List.drop_drop] at a2 a3 a4
    have hj1 := hd_some (show hd (cs.drop (j + 1)) ≠ -1 by rw [a2]; decide)
    walk_at "vb"
    refine s_skip_remark h hf hj1 (fun r' hr' => ?_) (fun hn => by rw [a3] at hn; cases hn)
    rw [a3] at hr'; cases hr'
    walk_at "vb"
    exact LInv.mk' hj _ (Nat.lt_of_lt_of_le (by decide) (Nat.le_add_right 2 _)) (lay_rem hj1 a3) a4 he (by rw [Nat.add_assoc]) _
end

-- V5
theorem hd_le (l : List Int) : hd l ≤ 1114111 := by
  cases l with
  | nil => decide
  | cons c l => show norm c ≤ _; unfold norm; split <;> lia

noncomputable def wordN : List Int → Nat
  | [] => 0
  | c :: l => if isAlnumB (norm c) then 1 + wordN l else 0
noncomputable def symN : List Int → Nat
  | [] => 0
  | c :: l => if isSymbolB (norm c) then 1 + symN l else 0
theorem wordN_le : ∀ l : List Int, wordN l ≤ l.length
  | [] => Nat.le_refl _
  | c :: l => by unfold wordN; have := wordN_le l; split <;> simp <;> lia
theorem symN_le : ∀ l : List Int, symN l ≤ l.length
  | [] => Nat.le_refl _
  | c :: l => by unfold symN; have := symN_le l; split <;> simp <;> lia
theorem norm_range {c : Int} (h1 : norm c ≠ -2) : 0 ≤ c ∧ c ≤ 1114111 ∧ norm c = c := by
  unfold norm at h1 ⊢
  split at h1
  · exact absurd rfl h1
  · rename_i h; rw [if_neg h]; lia
theorem wordN_range : ∀ (l : List Int) (x : Int), x ∈ l.take (wordN l) → 0 ≤ x ∧ x ≤ 1114111
  | [], x, h => by simp at h
  | c :: l, x, h => by
    unfold wordN at h
    split at h
    · rename_i hc
      rw [show 1 + wordN l = wordN l + 1 by lia, List.take_succ_cons] at h
      rcases List.mem_cons.mp h with rfl | h
      · have := norm_range (c := x) (fun q => by rw [q] at hc; exact absurd hc (by decide)); exact ⟨this.1, this.2.1⟩
      · exact wordN_range l x h
    · simp at h
theorem symN_range : ∀ (l : List Int) (x : Int), x ∈ l.take (symN l) → 0 ≤ x ∧ x ≤ 1114111
  | [], x, h => by simp at h
  | c :: l, x, h => by
    unfold symN at h
    split at h
    · rename_i hc
      rw [show 1 + symN l = symN l + 1 by lia, List.take_succ_cons] at h
      rcases List.mem_cons.mp h with rfl | h
      · have := norm_range (c := x) (fun q => by rw [q] at hc; exact absurd hc (by decide +kernel)); exact ⟨this.1, this.2.1⟩
      · exact symN_range l x h
    · simp at h

noncomputable def digRun (b : Int) : List Int → List Int
  | [] => []
  | c :: l => if 0 ≤ digitV (norm c) ∧ digitV (norm c) < b then digitV (norm c) :: digRun b l else []
theorem digRun_le (b : Int) : ∀ l : List Int, (digRun b l).length ≤ l.length
  | [] => Nat.le_refl _
  | c :: l => by unfold digRun; have := digRun_le b l; split <;> simp <;> lia
noncomputable def valOf (b : Int) (ds : List Int) : Int := ds.foldl (fun v d => v * b + d) 0
noncomputable def escVal (b : Int) (ds : List Int) : Int := ds.foldl (fun v d => if v ≤ 1114111 then v * b + d else v) 0

section
variable {n : Nat} {c0 : Cell} {cs : List Int} {a o : Int} {Q : AV → List Cell → Prop} {X : Phi → List Cell → Prop}

theorem s_codes_text {x y : Cell} (h : gcOk [x, y] = true) {l : List Int} (hl : l.length ≤ 100000) (hr : ∀ c ∈ l, 0 ≤ c ∧ c ≤ 1114111) (k : Q (.str (textOf l)) [x, y]) : PhiN rowOf (n + 1) 107 [.lst (l.map .int)] [x, y] Q X := by
  rw [phi_iff' w_codes_text (by decide) rfl]
  refine ⟨h, ?_⟩
  show wpSs _ c_codes_text ⟨[some (.lst (l.map .int))], _⟩ _ _
  unfold c_codes_text
  walk_at "vc"
  refine ⟨l.map Int.toNat, ?_, fun m hm => ?_, by simpa using hl, ?_⟩
  · rw [List.map_map]
    refine List.map_congr_left fun c hc => ?_
    show AV.int c = .int (c.toNat : Int)
    rw [Int.toNat_of_nonneg (hr c hc).1]
  · obtain ⟨c, hc, rfl⟩ := List.mem_map.mp hm
    have := hr c hc; lia
  · exact ⟨h, k⟩

theorem closedL1 (vs : List Int) : AV.closedL [.lst (vs.map .int)] = true := by show (AV.closedL (vs.map .int) && true) = true; rw [closedL_ints]; rfl
theorem k_sl12 {Φ : Spec1} {vs : List (Option AV)} {l : List Int} {u v : Int} {r : List Cell} {Q : AV → AS → Prop} {X : Phi → AS → Prop} {p j : Nat} (h0 : nth vs 0 = some (.ins 1)) (h1 : nth vs 1 = some (.int p)) (h2 : nth vs 2 = some (.int j)) (hl : l.length ≤ 50000)
    (k : Q (.lst (((l.take j).drop p).map .int)) ⟨vs, c0 :: tk l u v :: r⟩) : wpE Φ (.slice (.attr 0 .codes) none none (some 1) (some 2)) ⟨vs, c0 :: tk l u v :: r⟩ Q X := by
  rw [e_slice]
  refine k_at_codes h0 ?_
  rw [part_var, part_var, ← nth_eq, ← nth_eq, h1, h2, partV_nat, partV_nat]
  refine ⟨by rw [List.length_map, sizeLine_val]; lia, ?_⟩
  show Q (.lst (((l.map AV.int).take j).drop p)) _
  rw [← List.map_take, ← List.map_drop]; exact k
theorem a_ends_at1 (h : c0.ok = true) (hf : cs.length ≤ 50000) {p : Nat} (k : Q (.bool (decide (hd (cs.drop (p + 1)) = -1) || (decide (hd (cs.drop (p + 1)) = 37) || isLayoutB (hd (cs.drop (p + 1)))))) [c0, tk cs a o]) : PhiN rowOf (n + 2) 213 [.ins 1, .int ((p : Int) + 1)] [c0, tk cs a o] Q X :=
  t_ends_at.mpr ⟨h, by rw [sizeLine_val]; lia, by lia, by rw [cda_nat1]; exact k⟩
noncomputable def WInv (N : List Int → Nat) (cs : List Int) (a o : Int) (c0 : Cell) (p : Nat) (σ : AS) (m : Nat) : Prop :=
  ∃ j : Nat, j ≤ cs.length ∧ p ≤ j ∧ p + N (cs.drop p) = j + N (cs.drop j) ∧ m = cs.length - j ∧ σ = ⟨[some (.ins 1), some (.int p), some (.int j)], [c0, tk cs a o]⟩
theorem WInv.mk' {N : List Int → Nat} {cs : List Int} {a o : Int} {c0 : Cell} {p j : Nat} (hj : j < cs.length) (hpj : p ≤ j) (he : p + N (cs.drop p) = j + N (cs.drop j)) (hs : N (cs.drop j) = 1 + N (cs.drop (j + 1))) (P : AF → AS → Prop) :
    whP (WInv N cs a o c0 p) (cs.length - j) P .next ⟨[some (.ins 1), some (.int p), some (.int ((j : Int) + 1))], [c0, tk cs a o]⟩ :=
  ⟨cs.length - (j + 1), Nat.sub_lt_sub_left hj (Nat.lt_succ_self j), j + 1, hj, Nat.le_succ_of_le hpj, by rw [he, hs, Nat.add_assoc], rfl, rfl⟩
theorem sl_eq {cs : List Int} {p j N : Nat} (he : p + N = j) : (cs.take j).drop p = (cs.drop p).take N := by
  rw [List.drop_take, ← he, Nat.add_sub_cancel_left]
theorem s_word (h : c0.ok = true) (hf : cs.length ≤ 50000) {p : Nat} (hp : p ≤ cs.length) (k : Q (.str (textOf ((cs.drop p).take (wordN (cs.drop p))))) [c0, tk cs ((p + wordN (cs.drop p) : Nat) : Int) o]) : PhiN rowOf (n + 3) 199 [.ins 1, .int p] [c0, tk cs a o] Q X := by
  refine phi_in (r := r_Tokenizer_word) w_Tokenizer_word (by decide) (gk h) rfl ?_
  show wpSs _ c_Tokenizer_word ⟨[some (.ins 1), some (.int p), none], _⟩ _ _
  unfold c_Tokenizer_word
  walk_at "vk"
  refine c_whlK (WInv wordN cs a o c0 p) (cs.length - p) ⟨p, hp, Nat.le_refl _, rfl, rfl, rfl⟩ ?_
  rintro σ m ⟨j, hjl, hpj, he, rfl, rfl⟩
  cases h1 : isAlnumB (hd (cs.drop j)) with
  | true =>
    have hj := hd_some (show hd (cs.drop j) ≠ -1 by intro q; rw [q] at h1; exact absurd h1 (by decide))
    have hs : wordN (cs.drop j) = 1 + wordN (cs.drop (j + 1)) := by
      rw [List.drop_eq_getElem_cons hj]
      rw [hd_drop hj] at h1
      rw [wordN, if_pos h1]
    walk_at "vb"
    exact WInv.mk' hj hpj he hs _
  | false =>
    have hs : wordN (cs.drop j) = 0 := by
      by_cases hj : j < cs.length
      · rw [List.drop_eq_getElem_cons hj]
        rw [hd_drop hj] at h1
        rw [wordN, if_neg (by rw [h1]; decide)]
      · rw [List.drop_of_length_le (Nat.le_of_not_lt hj)]; rfl
    rw [hs, Nat.add_zero] at he
    have hcl := closedL1 ((cs.take j).drop p)
    walk_at "vb"
    refine k_sl12 rfl rfl rfl hf ?_
    walk_at "vb"
    rw [sl_eq he]
    have hle := wordN_le (cs.drop p)
    refine s_codes_text (gk h) ?_ (wordN_range _) ?_
    · rw [List.length_take]; rw [List.length_drop] at hle ⊢; lia
    · walk_at "vb"
      rw [he] at k
      exact k
theorem s_symbol_end (h : c0.ok = true) (hf : cs.length ≤ 50000) {p : Nat} (h1 : hd (cs.drop p) = 46) (h2 : hd (cs.drop (p + 1)) = -1 ∨ hd (cs.drop (p + 1)) = 37 ∨ isLayoutB (hd (cs.drop (p + 1))) = true) (k : Q (.tup [.str "end", .str ".", .int p]) [c0, tk cs ((p + 1 : Nat) : Int) o]) : PhiN rowOf (n + 3) 206 [.ins 1, .int p] [c0, tk cs a o] Q X := by
  refine phi_in (r := r_Tokenizer_symbol) w_Tokenizer_symbol (by decide) (gk h) rfl ?_
  show wpSs _ c_Tokenizer_symbol ⟨[some (.ins 1), some (.int p), none], _⟩ _ _
  unfold c_Tokenizer_symbol
  have h3 : (decide (hd (cs.drop (p + 1)) = -1) || (decide (hd (cs.drop (p + 1)) = 37) || isLayoutB (hd (cs.drop (p + 1))))) = true := by
    rcases h2 with h2 | h2 | h2 <;> simp [h2]
  walk_at "vb"
  refine a_ends_at1 h hf ?_
  walk_at "vb"
  exact k
theorem s_symbol_name (h : c0.ok = true) (hf : cs.length ≤ 50000) {p : Nat} (hp : p ≤ cs.length) (h1 : ¬ (hd (cs.drop p) = 46 ∧ (hd (cs.drop (p + 1)) = -1 ∨ hd (cs.drop (p + 1)) = 37 ∨ isLayoutB (hd (cs.drop (p + 1))) = true)))
    (k : Q (.tup [.str "name", .str (textOf ((cs.drop p).take (symN (cs.drop p)))), .int p]) [c0, tk cs ((p + symN (cs.drop p) : Nat) : Int) o]) : PhiN rowOf (n + 3) 206 [.ins 1, .int p] [c0, tk cs a o] Q X := by
  refine phi_in (r := r_Tokenizer_symbol) w_Tokenizer_symbol (by decide) (gk h) rfl ?_
  show wpSs _ c_Tokenizer_symbol ⟨[some (.ins 1), some (.int p), none], _⟩ _ _
  unfold c_Tokenizer_symbol
  have rest : wpS (PhiN rowOf (n + 2)) (.whl (.call "is_symbol" 88 (.cons (.meth 0 "code_at" 143 (.cons (.var 2) .nil)) .nil)) (.cons (.asg 2 (.bin .Add (.var 2) (.int 1))) .nil)) ⟨[some (.ins 1), some (.int p), some (.int p)], [c0, tk cs a o]⟩
      (sqP (PhiN rowOf (n + 2)) (.cons (.setAt 0 .at (.var 2)) (.cons (.ret (.tup (.cons (.str "name") (.cons (.call "codes_text" 107 (.cons (.slice (.attr 0 .codes) none none (some 1) (some 2)) .nil)) (.cons (.var 1) .nil))))) .nil)) (finP Q) (finX X)) (finX X) := by
    refine c_whlK (WInv symN cs a o c0 p) (cs.length - p) ⟨p, hp, Nat.le_refl _, rfl, rfl, rfl⟩ ?_
    rintro σ m ⟨j, hjl, hpj, he, rfl, rfl⟩
    cases h1 : isSymbolB (hd (cs.drop j)) with
    | true =>
      have hj := hd_some (show hd (cs.drop j) ≠ -1 by intro q; rw [q] at h1; exact absurd h1 (by decide +kernel))
      have hs : symN (cs.drop j) = 1 + symN (cs.drop (j + 1)) := by
        rw [List.drop_eq_getElem_cons hj]
        rw [hd_drop hj] at h1
        rw [symN, if_pos h1]
      walk_at "vb"
      exact WInv.mk' hj hpj he hs _
    | false =>
      have hs : symN (cs.drop j) = 0 := by
        by_cases hj : j < cs.length
        · rw [List.drop_eq_getElem_cons hj]
          rw [hd_drop hj] at h1
          rw [symN, if_neg (by rw [h1]; decide)]
        · rw [List.drop_of_length_le (Nat.le_of_not_lt hj)]; rfl
      rw [hs, Nat.add_zero] at he
      have hcl := closedL1 ((cs.take j).drop p)
      walk_at "vb"
      refine k_sl12 rfl rfl rfl hf ?_
      walk_at "vb"
      rw [sl_eq he]
      have hle := symN_le (cs.drop p)
      refine s_codes_text (gk h) ?_ (symN_range _) ?_
      · rw [List.length_take]; rw [List.length_drop] at hle ⊢; lia
      · walk_at "vb"
        rw [he] at k
        exact k
  by_cases h3 : hd (cs.drop p) = 46
  · have h4 : (decide (hd (cs.drop (p + 1)) = -1) || (decide (hd (cs.drop (p + 1)) = 37) || isLayoutB (hd (cs.drop (p + 1))))) = false := by
      rw [Bool.eq_false_iff]
      intro q
      refine h1 ⟨h3, ?_⟩
      simpa using q
    walk_at "vb"
    refine a_ends_at1 h hf ?_
    walk_at "vb"
    exact rest
  · walk_at "vb"
    exact rest
noncomputable def DInv (cs : List Int) (a o : Int) (c0 : Cell) (p : Nat) (b : Int) (σ : AS) (m : Nat) : Prop :=
  ∃ (j : Nat) (v : Int) (x : Option AV), j ≤ cs.length ∧ p + (digRun b (cs.drop p)).length = j + (digRun b (cs.drop j)).length ∧ valOf b (digRun b (cs.drop p)) = (digRun b (cs.drop j)).foldl (fun v d => v * b + d) v ∧ m = cs.length - j ∧
    σ = ⟨[some (.ins 1), some (.int j), some (.int b), some (.int v), x], [c0, tk cs a o]⟩
theorem s_digits (h : c0.ok = true) (hf : cs.length ≤ 50000) {p : Nat} {b : Int} (hp : p ≤ cs.length) (hb : Builtin.Int.intBits b ≤ 64) (k : Q (.int (valOf b (digRun b (cs.drop p)))) [c0, tk cs ((p + (digRun b (cs.drop p)).length : Nat) : Int) o]) : PhiN rowOf (n + 3) 227 [.ins 1, .int p, .int b] [c0, tk cs a o] Q X := by
  refine phi_in (r := r_Tokenizer_digits) w_Tokenizer_digits (by decide) (gk h) rfl ?_
  show wpSs _ c_Tokenizer_digits ⟨[some (.ins 1), some (.int p), some (.int b), none, none], _⟩ _ _
  unfold c_Tokenizer_digits
  walk_at "vk"
  refine c_whlK (DInv cs a o c0 p b) (cs.length - p) ⟨p, 0, none, hp, rfl, rfl, rfl, rfl⟩ ?_
  rintro σ m ⟨j, v, x, hjl, he, hv, rfl, rfl⟩
  have hm : IntMulOk v b := IntMulOk.of_right hb
  by_cases hin : 0 ≤ digitV (hd (cs.drop j)) ∧ digitV (hd (cs.drop j)) < b
  · have h1 : ¬ digitV (hd (cs.drop j)) < 0 := Int.not_lt.mpr hin.1
    have h2 : ¬ b ≤ digitV (hd (cs.drop j)) := Int.not_le.mpr hin.2
    have hj := hd_some (show hd (cs.drop j) ≠ -1 by intro q; rw [q] at h1; exact absurd h1 (by decide))
    have hs : digRun b (cs.drop j) = digitV (hd (cs.drop j)) :: digRun b (cs.drop (j + 1)) := by
      rw [hd_drop hj] at hin ⊢
      rw [List.drop_eq_getElem_cons hj, digRun, if_pos hin]
    rw [hs] at he hv
    rw [List.foldl_cons] at hv
    rw [List.length_cons, Nat.add_comm _ 1, ← Nat.add_assoc] at he
    walk_at "vb"
    exact ⟨cs.length - (j + 1), Nat.sub_lt_sub_left hj (Nat.lt_succ_self j), j + 1, _, _, hj, he, hv, rfl, rfl⟩
  · have hs : digRun b (cs.drop j) = [] := by
      by_cases hj : j < cs.length
      · rw [List.drop_eq_getElem_cons hj]
        rw [hd_drop hj] at hin
        rw [digRun, if_neg hin]
      · rw [List.drop_of_length_le (Nat.le_of_not_lt hj)]; rfl
    rw [hs] at he hv
    rw [he, hv] at k
    by_cases h1 : digitV (hd (cs.drop j)) < 0
    · walk_at "vb"
      exact k
    · have h2 : b ≤ digitV (hd (cs.drop j)) := by lia
      walk_at "vb"
      exact k
end

-- V6
noncomputable def escF (l : List Int) : Option (Int × Nat) :=
  if 0 ≤ simpleEsc (hd l) then some (simpleEsc (hd l), 1) else
  let x : Nat := if hd l = 120 then 1 else 0
  let b : Int := if hd l = 120 then 16 else 8
  let ds := digRun b (l.drop x)
  if ds = [] ∨ 1114111 < escVal b ds ∨ hd ((l.drop x).drop ds.length) ≠ 92 then none else some (escVal b ds, x + ds.length + 1)

section
variable {n : Nat} {c0 : Cell} {cs : List Int} {a o : Int} {Q : AV → List Cell → Prop} {X : Phi → List Cell → Prop}

noncomputable def escRest : CSs := (.cons (.cif (.bop .Or (.cons (.cmp .Eq (.var 1) (.var 5)) (.cons (.cmp .Gt (.var 6) (.gint "MAX_CODE" (1114111))) (.cons (.cmp .NotEq (.meth 0 "code_at" 143 (.cons (.var 1) .nil)) (.gint "BACKSLASH" (92))) .nil)))) (.cons (.ret (.neg (.int 1))) .nil) .nil) (.cons (.setAt 0 .at (.bin .Add (.var 1) (.int 1))) (.cons (.ret (.var 6)) .nil)))
theorem esc_end (h : c0.ok = true) (hf : cs.length ≤ 50000) {q j : Nat} {b c s v : Int} {x : Option AV} {N : Prop} {P : AF → AS → Prop} {Y : Phi → AS → Prop} (e3 : (j : Int) = (q : Int) ↔ N)
    (k1 : ∀ vs, (N ∨ 1114111 < v ∨ hd (cs.drop j) ≠ 92) → P (.ret (.int (-1))) ⟨vs, [c0, tk cs a o]⟩)
    (k2 : ∀ vs, ¬ (N ∨ 1114111 < v ∨ hd (cs.drop j) ≠ 92) → P (.ret (.int v)) ⟨vs, [c0, tk cs ((j + 1 : Nat) : Int) o]⟩) :
    wpSs (PhiN rowOf (n + 2)) escRest ⟨[some (.ins 1), some (.int j), some (.int c), some (.int s), some (.int b), some (.int q), some (.int v), x], [c0, tk cs a o]⟩ P Y := by
  unfold escRest
  by_cases h3 : (j : Int) = (q : Int)
  · walk_at "vb"
    exact k1 _ (Or.inl (e3.mp h3))
  · by_cases h4 : 1114111 < v
    · walk_at "vb"
      exact k1 _ (Or.inr (Or.inl h4))
    · by_cases h5 : hd (cs.drop j) = 92
      · walk_at "vb"
        exact k2 _ (by rintro (z | z | z); exact h3 (e3.mpr z); exact h4 z; exact z h5)
      · walk_at "vb"
        exact k1 _ (Or.inr (Or.inr h5))
noncomputable def EInv (cs : List Int) (a o : Int) (c0 : Cell) (q : Nat) (b c s : Int) (σ : AS) (m : Nat) : Prop :=
  ∃ (j : Nat) (v : Int) (x : Option AV), q ≤ j ∧ j ≤ cs.length ∧ q + (digRun b (cs.drop q)).length = j + (digRun b (cs.drop j)).length ∧ escVal b (digRun b (cs.drop q)) = (digRun b (cs.drop j)).foldl (fun v d => if v ≤ 1114111 then v * b + d else v) v ∧ m = cs.length - j ∧
    σ = ⟨[some (.ins 1), some (.int j), some (.int c), some (.int s), some (.int b), some (.int q), some (.int v), x], [c0, tk cs a o]⟩
theorem esc_tail (h : c0.ok = true) (hf : cs.length ≤ 50000) {q : Nat} {b c s : Int} (hq : q ≤ cs.length) (hb : Builtin.Int.intBits b ≤ 64) {P : AF → AS → Prop} {Y : Phi → AS → Prop}
    (k1 : ∀ vs, (digRun b (cs.drop q) = [] ∨ 1114111 < escVal b (digRun b (cs.drop q)) ∨ hd ((cs.drop q).drop (digRun b (cs.drop q)).length) ≠ 92) → P (.ret (.int (-1))) ⟨vs, [c0, tk cs a o]⟩)
    (k2 : ∀ vs, ¬ (digRun b (cs.drop q) = [] ∨ 1114111 < escVal b (digRun b (cs.drop q)) ∨ hd ((cs.drop q).drop (digRun b (cs.drop q)).length) ≠ 92) → P (.ret (.int (escVal b (digRun b (cs.drop q))))) ⟨vs, [c0, tk cs ((q + (digRun b (cs.drop q)).length + 1 : Nat) : Int) o]⟩) :
    wpS (PhiN rowOf (n + 2)) (.whl (.bool true) (.cons (.asg 7 (.call "digit_value" 102 (.cons (.meth 0 "code_at" 143 (.cons (.var 1) .nil)) .nil))) (.cons (.cif (.bop .Or (.cons (.cmp .Lt (.var 7) (.int 0)) (.cons (.cmp .GtE (.var 7) (.var 4)) .nil))) (.cons .brk .nil) .nil) (.cons (.cif (.cmp .LtE (.var 6) (.gint "MAX_CODE" (1114111))) (.cons (.asg 6 (.bin .Add (.bin .Mult (.var 6) (.var 4)) (.var 7))) .nil) .nil) (.cons (.asg 1 (.bin .Add (.var 1) (.int 1))) .nil)))))
      ⟨[some (.ins 1), some (.int q), some (.int c), some (.int s), some (.int b), some (.int q), some (.int 0), none], [c0, tk cs a o]⟩
      (sqP (PhiN rowOf (n + 2)) escRest P Y) Y := by
  refine c_whlK (EInv cs a o c0 q b c s) (cs.length - q) ⟨q, 0, none, Nat.le_refl _, hq, rfl, rfl, rfl, rfl⟩ ?_
  rintro σ m ⟨j, v, x, hqj, hjl, he, hv, rfl, rfl⟩
  have hm : IntMulOk v b := IntMulOk.of_right hb
  by_cases hin : 0 ≤ digitV (hd (cs.drop j)) ∧ digitV (hd (cs.drop j)) < b
  · have h1 : ¬ digitV (hd (cs.drop j)) < 0 := Int.not_lt.mpr hin.1
    have h2 : ¬ b ≤ digitV (hd (cs.drop j)) := Int.not_le.mpr hin.2
    have hj := hd_some (show hd (cs.drop j) ≠ -1 by intro q; rw [q] at h1; exact absurd h1 (by decide))
    have hs : digRun b (cs.drop j) = digitV (hd (cs.drop j)) :: digRun b (cs.drop (j + 1)) := by
      rw [hd_drop hj] at hin ⊢
      rw [List.drop_eq_getElem_cons hj, digRun, if_pos hin]
    rw [hs] at he hv
    rw [List.foldl_cons] at hv
    rw [List.length_cons, Nat.add_comm _ 1, ← Nat.add_assoc] at he
    have hlt : cs.length - (j + 1) < cs.length - j := by lia
    by_cases h6 : v ≤ 1114111
    · rw [if_pos h6] at hv
      walk_at "vb"
      exact ⟨cs.length - (j + 1), hlt, j + 1, _, _, Nat.le_succ_of_le hqj, hj, he, hv, rfl, rfl⟩
    · rw [if_neg h6] at hv
      walk_at "vb"
      exact ⟨cs.length - (j + 1), hlt, j + 1, _, _, Nat.le_succ_of_le hqj, hj, he, hv, rfl, rfl⟩
  · have hs : digRun b (cs.drop j) = [] := by
      by_cases hj : j < cs.length
      · rw [List.drop_eq_getElem_cons hj]
        rw [hd_drop hj] at hin
        rw [digRun, if_neg hin]
      · rw [List.drop_of_length_le (by lia)]; rfl
    rw [hs] at he hv
    have e1 : q + (digRun b (cs.drop q)).length = j := he
    have e2 : escVal b (digRun b (cs.drop q)) = v := hv
    have hdr : (cs.drop q).drop (digRun b (cs.drop q)).length = cs.drop j := by rw [List.drop_drop, e1]
    rw [hdr, e2] at k1 k2
    rw [e1] at k2
    have e3 : (j : Int) = (q : Int) ↔ digRun b (cs.drop q) = [] := by
      rw [← List.length_eq_zero_iff]; lia
    by_cases h1 : digitV (hd (cs.drop j)) < 0
    · repeat (first | walk_at "vbr" | ((with_reducible show wpSs _ escRest _ _ _); exact esc_end h hf e3 k1 k2) | walk_at "v1")
    · have h2 : b ≤ digitV (hd (cs.drop j)) := by lia
      repeat (first | walk_at "vbr" | ((with_reducible show wpSs _ escRest _ _ _); exact esc_end h hf e3 k1 k2) | walk_at "v1")
theorem s_escape (h : c0.ok = true) (hf : cs.length ≤ 50000) {p : Nat} (hp : p < cs.length) (k1 : escF (cs.drop (p + 1)) = none → Q (.int (-1)) [c0, tk cs p o])
    (k2 : ∀ v m, escF (cs.drop (p + 1)) = some (v, m) → Q (.int v) [c0, tk cs ((p + 1 + m : Nat) : Int) o]) : PhiN rowOf (n + 3) 248 [.ins 1] [c0, tk cs p o] Q X := by
  refine phi_in (r := r_Tokenizer_escape) w_Tokenizer_escape (by decide) (gk h) rfl ?_
  show wpSs _ c_Tokenizer_escape ⟨[some (.ins 1), none, none, none, none, none, none, none], _⟩ _ _
  unfold c_Tokenizer_escape
  unfold escF at k1 k2
  by_cases h1 : 0 ≤ simpleEsc (hd (cs.drop (p + 1)))
  · rw [if_pos h1] at k2
    have := k2 _ _ rfl
    walk_at "vb"
    exact this
  · rw [if_neg h1] at k1 k2
    by_cases h2 : hd (cs.drop (p + 1)) = 120
    · simp only [h2, if_true, List.drop_drop] at k1 k2
      have hj := hd_some (show hd (cs.drop (p + 1)) ≠ -1 by rw [h2]; decide)
      walk_at "vb"
      refine esc_tail (q := p + 2) h hf hj (by decide +kernel) ?_ ?_
      · intro vs hc
        refine ⟨rfl, gk h, ?_⟩
        exact k1 (by rw [List.drop_drop] at hc; rw [if_pos hc])
      · intro vs hc
        refine ⟨rfl, gk h, ?_⟩
        have := k2 _ _ (by rw [List.drop_drop] at hc; rw [if_neg hc])
        rw [show p + 2 + (digRun 16 (cs.drop (p + 2))).length + 1 = p + 1 + (1 + (digRun 16 (cs.drop (p + 2))).length + 1) by lia]
        exact this
    · simp only [h2, if_false, List.drop_drop] at k1 k2
      walk_at "vb"
      refine esc_tail (q := p + 1) h hf hp (by decide +kernel) ?_ ?_
      · intro vs hc
        refine ⟨rfl, gk h, ?_⟩
        exact k1 (by rw [List.drop_drop] at hc; rw [if_pos (by simpa using hc)])
      · intro vs hc
        refine ⟨rfl, gk h, ?_⟩
        have := k2 _ _ (by rw [List.drop_drop] at hc; rw [if_neg (by simpa using hc)])
        simp only [Nat.add_zero, Nat.zero_add, List.drop_zero] at this
        exact this
inductive AbR (q : Int) : List Int → Nat → Prop
  | stop {l : List Int} : hd l = -1 ∨ hd l = 10 → AbR q l 0
  | back {l : List Int} {k : Nat} : hd l = 92 → hd (l.drop 1) ≠ -1 → AbR q (l.drop 2) k → AbR q l (2 + k)
  | twin {l : List Int} {k : Nat} : hd l = q → hd (l.drop 1) = q → AbR q (l.drop 2) k → AbR q l (2 + k)
  | last {l : List Int} : hd l = q → hd (l.drop 1) ≠ q → AbR q l 1
  | one {l : List Int} {k : Nat} : hd l ≠ -1 → hd l ≠ 10 → ¬ (hd l = 92 ∧ hd (l.drop 1) ≠ -1) → hd l ≠ q → AbR q (l.drop 1) k → AbR q l (1 + k)

noncomputable def AInv (cs : List Int) (o : Int) (c0 : Cell) (p : Nat) (q : Int) (k : Nat) (σ : AS) (m : Nat) : Prop :=
  ∃ (j i : Nat) (x y : Option AV), j ≤ cs.length ∧ AbR q (cs.drop j) i ∧ p + k = j + i ∧ m = cs.length - j ∧ σ = ⟨[some (.ins 1), some (.int q), x, y], [c0, tk cs j o]⟩
theorem AInv.mk' {cs : List Int} {o : Int} {c0 : Cell} {p : Nat} {q : Int} {k j i : Nat} (he : p + k = j + i) (d i' : Nat) {x y : Option AV} (hd : 0 < d) (h1 : j + d ≤ cs.length) (h2 : AbR q (cs.drop (j + d)) i') (h3 : i = d + i') {t : Int} (ht : t = ((j + d : Nat) : Int)) (P : AF → AS → Prop) :
    whP (AInv cs o c0 p q k) (cs.length - j) P .next ⟨[some (.ins 1), some (.int q), x, y], [c0, tk cs t o]⟩ :=
  ⟨cs.length - (j + d), by lia, j + d, i', x, y, h1, h2, by lia, rfl, by rw [ht]⟩
theorem s_abandon (h : c0.ok = true) (hf : cs.length ≤ 50000) {q : Int} (hq : q = 39 ∨ q = 34 ∨ q = 96) {p k : Nat} (hp : p ≤ cs.length) (ha : AbR q (cs.drop p) k) (kk : Q .non [c0, tk cs ((p + k : Nat) : Int) o]) : PhiN rowOf (n + 2) 255 [.ins 1, .int q] [c0, tk cs p o] Q X := by
  have hq1 : ¬ q = -1 := by lia
  have hq2 : ¬ q = 10 := by lia
  have hq3 : ¬ q = 92 := by lia
  refine phi_in (r := r_Tokenizer_abandon) w_Tokenizer_abandon (by decide) (gk h) rfl ?_
  show wpSs _ c_Tokenizer_abandon ⟨[some (.ins 1), some (.int q), none, none], _⟩ _ _
  unfold c_Tokenizer_abandon
  walk_at "vk"
  refine c_whlK (AInv cs o c0 p q k) (cs.length - p) ⟨p, k, none, none, hp, ha, rfl, rfl, rfl⟩ ?_
  rintro σ m ⟨j, i, x, y, hjl, ha, he, rfl, rfl⟩
  walk_at "vk"
  cases ha with
  | stop h1 =>
    rw [Nat.add_zero] at he
    rw [he] at kk
    by_cases h2 : hd (cs.drop j) = -1
    · walk_at "vb"
      exact kk
    · have h1 := h1.resolve_left h2
      walk_at "vb"
      exact kk
  | @back _ k' h1 h2 ha =>
    rw [List.drop_drop] at h2 ha
    walk_at "vb"
    exact AInv.mk' he 2 k' (by decide) (hd_some h2) ha rfl rfl _
  | @twin _ k' h1 h2 ha =>
    rw [List.drop_drop] at h2 ha
    have a1 : ¬ hd (cs.drop j) = -1 := h1 ▸ hq1
    have a2 : ¬ hd (cs.drop j) = 10 := h1 ▸ hq2
    have a3 : ¬ hd (cs.drop j) = 92 := h1 ▸ hq3
    walk_at "vb"
    exact AInv.mk' he 2 k' (by decide) (hd_some (h2 ▸ hq1)) ha rfl rfl _
  | last h1 h2 =>
    rw [List.drop_drop] at h2
    rw [he] at kk
    have a1 : ¬ hd (cs.drop j) = -1 := h1 ▸ hq1
    have a2 : ¬ hd (cs.drop j) = 10 := h1 ▸ hq2
    have a3 : ¬ hd (cs.drop j) = 92 := h1 ▸ hq3
    walk_at "vb"
    exact kk
  | @one _ k' h1 h2 h3 h4 ha =>
    rw [List.drop_drop] at h3 ha
    by_cases h5 : hd (cs.drop j) = 92
    · have h6 : hd (cs.drop (j + 1)) = -1 := Decidable.not_not.mp fun z => h3 ⟨h5, z⟩
      walk_at "vb"
      exact AInv.mk' he 1 k' (by decide) (hd_some h1) ha rfl rfl _
    · walk_at "vb"
      exact AInv.mk' he 1 k' (by decide) (hd_some h1) ha rfl rfl _
end

-- V8
inductive QuE | ok | unf | bad (kd : Str) (d : Nat)
noncomputable def QuE.sh (k : Nat) : QuE → QuE | .bad kd d => .bad kd (k + d) | e => e
theorem sh_sh (a b : Nat) (e : QuE) : (e.sh b).sh a = e.sh (a + b) := by cases e <;> simp [QuE.sh, Nat.add_assoc]
theorem sh_0 (e : QuE) : e.sh 0 = e := by cases e <;> simp [QuE.sh]
inductive QuR (q : Int) : List Int → List Int → QuE → Nat → Prop
  | stop {l : List Int} : hd l = q → hd (l.drop 1) ≠ q → QuR q l [] .ok 1
  | unf {l : List Int} : hd l = -1 ∨ hd l = 10 → QuR q l [] .unf 0
  | badE {l : List Int} {k : Nat} : hd l = 92 → hd (l.drop 1) ≠ 10 → escF (l.drop 1) = none → AbR q l k → QuR q l [] (.bad "bad_escape" 0) k
  | und {l : List Int} {k : Nat} : hd l ≠ q → hd l ≠ -1 → hd l ≠ 10 → hd l ≠ 92 → isQuotableB (hd l) = false → AbR q l k → QuR q l [] (.bad "undefined_char" 0) k
  | twin {l vs : List Int} {e : QuE} {k : Nat} : hd l = q → hd (l.drop 1) = q → QuR q (l.drop 2) vs e k → QuR q l (q :: vs) (e.sh 2) (2 + k)
  | cont {l vs : List Int} {e : QuE} {k : Nat} : hd l = 92 → hd (l.drop 1) = 10 → QuR q (l.drop 2) vs e k → QuR q l vs (e.sh 2) (2 + k)
  | esc {l vs : List Int} {e : QuE} {k m : Nat} {v : Int} : hd l = 92 → hd (l.drop 1) ≠ 10 → escF (l.drop 1) = some (v, m) → QuR q (l.drop (1 + m)) vs e k → QuR q l (v :: vs) (e.sh (1 + m)) (1 + m + k)
  | plain {l vs : List Int} {e : QuE} {k : Nat} : hd l ≠ q → hd l ≠ -1 → hd l ≠ 10 → hd l ≠ 92 → isQuotableB (hd l) = true → QuR q (l.drop 1) vs e k → QuR q l (hd l :: vs) (e.sh 1) (1 + k)

theorem digRun_nonneg (b : Int) : ∀ (l : List Int) (d : Int), d ∈ digRun b l → 0 ≤ d ∧ d < b
  | [], d, h => by simp [digRun] at h
  | c :: l, d, h => by
    unfold digRun at h
    split at h
    · rename_i hc
      rcases List.mem_cons.mp h with rfl | h
      · exact hc
      · exact digRun_nonneg b l d h
    · simp at h
theorem escVal_nonneg (b : Int) (hb : 0 ≤ b) : ∀ (ds : List Int) (v : Int), 0 ≤ v → (∀ d ∈ ds, 0 ≤ d) → 0 ≤ ds.foldl (fun v d => if v ≤ 1114111 then v * b + d else v) v
  | [], v, h, _ => h
  | d :: ds, v, h, hd => by
    rw [List.foldl_cons]
    refine escVal_nonneg b hb ds _ ?_ fun e he => hd e (List.mem_cons_of_mem _ he)
    split
    · have := Int.mul_nonneg h hb
      have := hd d (List.mem_cons_self ..)
      lia
    · exact h
theorem escF_range {l : List Int} {v : Int} {m : Nat} (h : escF l = some (v, m)) : 0 ≤ v ∧ 1 ≤ m ∧ m ≤ l.length := by
  unfold escF at h
  by_cases h1 : 0 ≤ simpleEsc (hd l)
  · rw [if_pos h1] at h
    injection h with h
    injection h with h2 h3
    subst h2 h3
    refine ⟨h1, Nat.le_refl _, ?_⟩
    cases l with
    | nil => exact absurd h1 (by decide +kernel)
    | cons _ _ => simp
  · rw [if_neg h1] at h
    dsimp only at h
    generalize (if hd l = 120 then 1 else 0 : Nat) = x at h
    have hb : 0 ≤ (if hd l = 120 then 16 else 8 : Int) := by split <;> decide
    generalize (if hd l = 120 then 16 else 8 : Int) = b at h hb
    by_cases hc : digRun b (l.drop x) = [] ∨ 1114111 < escVal b (digRun b (l.drop x)) ∨ hd ((l.drop x).drop (digRun b (l.drop x)).length) ≠ 92
    · rw [if_pos hc] at h; cases h
    · rw [if_neg hc] at h
      injection h with h
      injection h with h2 h3
      subst h2 h3
      refine ⟨escVal_nonneg _ hb _ _ (by decide) (fun d hd => (digRun_nonneg _ _ _ hd).1), by lia, ?_⟩
      rw [List.drop_drop] at hc
      have h5 : hd (l.drop (x + (digRun b (l.drop x)).length)) = 92 := Decidable.not_not.mp fun z => hc (Or.inr (Or.inr z))
      have := hd_some (show hd _ ≠ -1 by rw [h5]; decide)
      lia

noncomputable def QInv (cs : List Int) (o : Int) (c0 : Cell) (p : Nat) (q : Int) (k : Nat) (vs : List Int) (e : QuE) (σ : AS) (m : Nat) : Prop :=
  ∃ (i k' : Nat) (us ws : List Int) (e' : QuE) (x y z : Option AV), p + 1 + i ≤ cs.length ∧ us.length ≤ i ∧ QuR q (cs.drop (p + 1 + i)) ws e' k' ∧ vs = us ++ ws ∧ e = e'.sh i ∧ k = i + k' ∧ m = cs.length - (p + 1 + i) ∧
    σ = ⟨[some (.ins 1), some (.int p), some (.int q), some (.ref 2), x, y, z], [c0, tk cs ((p + 1 + i : Nat) : Int) o, .lst (us.map .int)]⟩
theorem QInv.mk' {cs : List Int} {o : Int} {c0 : Cell} {p : Nat} {q : Int} {k : Nat} {vs : List Int} {e : QuE} {i k' : Nat} {us ws : List Int} {e' : QuE} (hul : us.length ≤ i) (hvs : vs = us ++ ws) (he : e = e'.sh i) (hk : k = i + k')
    (d k'' : Nat) (ws' us' : List Int) (e'' : QuE) (x y z : Option AV) (h1 : p + 1 + i + d ≤ cs.length) (h2 : 0 < d) (h3 : us'.length ≤ i + 1) (h4 : QuR q (cs.drop (p + 1 + i + d)) ws' e'' k'') (h5 : us ++ ws = us' ++ ws') (h6 : e' = e''.sh d) (h7 : k' = d + k'') {t : Int} (ht : t = ((p + 1 + i + d : Nat) : Int)) {C : Cell} (hC : C = .lst (us'.map .int)) :
      whP (QInv cs o c0 p q k vs e) (cs.length - (p + 1 + i)) P .next ⟨[some (.ins 1), some (.int p), some (.int q), some (.ref 2), x, y, z], [c0, tk cs t o, C]⟩ := by
  refine ⟨cs.length - (p + 1 + (i + d)), by lia, i + d, k'', us', ws', e'', x, y, z, by lia, by lia, ?_, by rw [hvs, h5], by rw [he, h6, sh_sh], by lia, rfl, ?_⟩
  · rw [Nat.add_assoc (p + 1)] at h4; exact h4
  · rw [hC, ht, Nat.add_assoc (p + 1)]

section
variable {n : Nat} {c0 : Cell} {cs : List Int} {a o : Int} {Q : AV → List Cell → Prop} {X : Phi → List Cell → Prop}

theorem s_quoted (h : c0.ok = true) (hf : cs.length ≤ 50000) {q : Int} (hq : q = 39 ∨ q = 34 ∨ q = 96) {p k : Nat} {vs : List Int} {e : QuE} (hp : p < cs.length) (hr : QuR q (cs.drop (p + 1)) vs e k)
    (k1 : e = .ok → Q (.lst (vs.map .int)) [c0, tk cs ((p + 1 + k : Nat) : Int) o])
    (k2 : e = .unf → X ("unfinished_quoted", p, (placeF (cs.take p)).1, (placeF (cs.take p)).2) [c0, tk cs ((p + 1 + k : Nat) : Int) o])
    (k3 : ∀ kd d, e = .bad kd d → X (kd, ((p + 1 + d : Nat) : Int), (placeF (cs.take (p + 1 + d))).1, (placeF (cs.take (p + 1 + d))).2) [c0, tk cs ((p + 1 + k : Nat) : Int) o]) : PhiN rowOf (n + 4) 241 [.ins 1, .int p, .int q] [c0, tk cs a o] Q X := by
  refine phi_in (r := r_Tokenizer_quoted) w_Tokenizer_quoted (by decide) (gk h) rfl ?_
  show wpSs _ c_Tokenizer_quoted ⟨[some (.ins 1), some (.int p), some (.int q), none, none, none, none], _⟩ _ _
  unfold c_Tokenizer_quoted
  walk_at "vk"
  refine c_whlK (QInv cs o c0 p q k vs e) (cs.length - (p + 1)) ⟨0, k, [], vs, e, none, none, none, hp, Nat.le_refl _, hr, rfl, (sh_0 e).symm, (Nat.zero_add k).symm, rfl, rfl⟩ ?_
  rintro σ m ⟨i, k', us, ws, e', x, y, z, hil, hul, hr, hvs, he, hk, rfl, rfl⟩
  have hlen : (us.map AV.int).length ≤ 100000 := by rw [List.length_map]; lia
  have dd : ∀ d, (cs.drop (p + 1 + i)).drop d = cs.drop (p + 1 + i + d) := fun d => List.drop_drop
  have nq : q ≠ -1 ∧ q ≠ 10 ∧ q ≠ 92 := by lia
  walk_at "vk"
  cases hr with
  | stop h1 h2 =>
    rw [dd] at h2
    refine ifT (decide_eq_true h1) ?_
    walk_at "vk"
    refine ifT (by rw [decide_eq_false h2]; rfl) ?_
    walk_at "vk"
    rw [hvs, List.append_nil, hk] at k1
    exact k1 (by rw [he]; rfl)
  | unf h1 =>
    rw [hk] at k2
    have kx := k2 (by rw [he]; rfl)
    refine ifF (decide_eq_false fun z => by lia) ?_
    walk_at "vk"
    rcases h1 with h1 | h1
    · refine orT (decide_eq_true h1) ?_
      refine ifT rfl ?_
      walk_at "vk"
      exact kx
    · refine orF (decide_eq_false fun z => by lia) ?_
      walk_at "vk"
      refine ifT (decide_eq_true h1) ?_
      walk_at "vk"
      exact kx
  | badE h1 h2 h3 ha =>
    rw [dd] at h2 h3
    have hj := hd_some (show hd (cs.drop (p + 1 + i)) ≠ -1 by rw [h1]; decide)
    have kx := k3 _ _ he
    rw [hk, Nat.add_zero, ← Nat.add_assoc, ← Nat.add_assoc] at kx
    refine ifF (decide_eq_false fun z => by lia) ?_
    walk_at "vk"
    refine orF (decide_eq_false fun z => by lia) ?_
    walk_at "vk"
    refine ifF (decide_eq_false fun z => by lia) ?_
    walk_at "vk"
    refine anT (decide_eq_true h1) ?_
    walk_at "vk"
    refine ifF (decide_eq_false h2) ?_
    walk_at "vk"
    refine ifT (decide_eq_true h1) ?_
    walk_at "vk"
    refine s_escape h hf hj (fun _ => ?_) (fun v m q => ?_)
    · walk_at "vk"
      refine ifT rfl ?_
      walk_at "vk"
      refine s_abandon h hf hq (by lia) ha ?_
      walk_at "vk"
      exact kx
    · rw [h3] at q; cases q
  | und h1 h2 h3 h4 h5 ha =>
    have hj := hd_some h2
    have kx := k3 _ _ he
    rw [hk, Nat.add_zero, ← Nat.add_assoc, ← Nat.add_assoc] at kx
    refine ifF (decide_eq_false h1) ?_
    walk_at "vk"
    refine orF (decide_eq_false h2) ?_
    walk_at "vk"
    refine ifF (decide_eq_false h3) ?_
    walk_at "vk"
    refine anF (decide_eq_false h4) ?_
    refine ifF rfl ?_
    walk_at "vk"
    refine ifF (decide_eq_false h4) ?_
    walk_at "vk"
    refine ifF h5 ?_
    walk_at "vk"
    refine s_abandon h hf hq (by lia) ha ?_
    walk_at "vk"
    exact kx
  | @twin _ vs' e'' k'' h1 h2 hr =>
    rw [dd] at h2 hr
    have hj := hd_some (show hd (cs.drop (p + 1 + i + 1)) ≠ -1 by rw [h2]; exact nq.1)
    refine ifT (decide_eq_true h1) ?_
    walk_at "vk"
    refine ifF (by rw [decide_eq_true h2]; rfl) ?_
    walk_at "vk"
    exact QInv.mk' hul hvs he hk 2 k'' vs' (us ++ [q]) e'' _ _ _ hj (by decide) (by rw [List.length_append]; exact Nat.add_le_add_right hul 1) hr (by rw [List.append_assoc]; rfl) rfl rfl rfl (by rw [List.map_append]; rfl)
  | @cont _ vs' e'' k'' h1 h2 hr =>
    rw [dd] at h2 hr
    have hj := hd_some (show hd (cs.drop (p + 1 + i + 1)) ≠ -1 by rw [h2]; decide)
    refine ifF (decide_eq_false fun z => by lia) ?_
    walk_at "vk"
    refine orF (decide_eq_false fun z => by lia) ?_
    walk_at "vk"
    refine ifF (decide_eq_false fun z => by lia) ?_
    walk_at "vk"
    refine anT (decide_eq_true h1) ?_
    walk_at "vk"
    refine ifT (decide_eq_true h2) ?_
    walk_at "vk"
    exact QInv.mk' hul hvs he hk 2 k'' ws us e'' _ _ _ hj (by decide) (Nat.le_succ_of_le hul) hr rfl rfl rfl rfl rfl
  | @esc _ vs' e'' k'' m v h1 h2 h3 hr =>
    rw [dd] at h2 h3 hr
    have hj := hd_some (show hd (cs.drop (p + 1 + i)) ≠ -1 by rw [h1]; decide)
    refine ifF (decide_eq_false fun z => by lia) ?_
    walk_at "vk"
    refine orF (decide_eq_false fun z => by lia) ?_
    walk_at "vk"
    refine ifF (decide_eq_false fun z => by lia) ?_
    walk_at "vk"
    refine anT (decide_eq_true h1) ?_
    walk_at "vk"
    refine ifF (decide_eq_false h2) ?_
    walk_at "vk"
    refine ifT (decide_eq_true h1) ?_
    walk_at "vk"
    refine s_escape h hf hj (fun z => ?_) (fun v' m' z => ?_)
    · rw [h3] at z; cases z
    · rw [h3] at z
      injection z with z
      injection z with z1 z2
      subst z1 z2
      have hm := escF_range h3
      rw [List.length_drop] at hm
      walk_at "vk"
      refine ifF (decide_eq_false (Int.not_lt.mpr hm.1)) ?_
      walk_at "vk"
      exact QInv.mk' hul hvs he hk (1 + m) k'' vs' (us ++ [v]) e'' _ _ _ (by lia) (by lia) (by rw [List.length_append]; exact Nat.add_le_add_right hul 1) hr (by rw [List.append_assoc]; rfl) rfl rfl (by rw [← Nat.add_assoc]) (by rw [List.map_append]; rfl)
  | @plain _ vs' e'' k'' h1 h2 h3 h4 h5 hr =>
    rw [dd] at hr
    have hj := hd_some h2
    refine ifF (decide_eq_false h1) ?_
    walk_at "vk"
    refine orF (decide_eq_false h2) ?_
    walk_at "vk"
    refine ifF (decide_eq_false h3) ?_
    walk_at "vk"
    refine anF (decide_eq_false h4) ?_
    refine ifF rfl ?_
    walk_at "vk"
    refine ifF (decide_eq_false h4) ?_
    walk_at "vk"
    refine ifT h5 ?_
    walk_at "vk"
    exact QInv.mk' hul hvs he hk 1 k'' vs' (us ++ [hd (cs.drop (p + 1 + i))]) e'' _ _ _ hj (by decide) (by rw [List.length_append]; exact Nat.add_le_add_right hul 1) hr (by rw [List.append_assoc]; rfl) rfl rfl rfl (by rw [List.map_append]; rfl)
end

-- V9
section
variable {n : Nat} {c0 : Cell} {cs : List Int} {a o : Int} {Q : AV → List Cell → Prop} {X : Phi → List Cell → Prop}

inductive ChR : List Int → Int → Nat → Prop
  | esc {l : List Int} {v : Int} {m : Nat} : hd l = 92 → escF (l.drop 1) = some (v, m) → ChR l v (1 + m)
  | twin {l : List Int} : hd l = 39 → hd (l.drop 1) = 39 → ChR l 39 2
  | plain {l : List Int} : hd l ≠ 92 → hd l ≠ 39 → isQuotableB (hd l) = true → ChR l (hd l) 1
theorem s_char (h : c0.ok = true) (hf : cs.length ≤ 50000) {p k : Nat} {v : Int} (hr : ChR (cs.drop (p + 2)) v k)
    (kk : Q (.int v) [c0, tk cs ((p + 2 + k : Nat) : Int) o]) : PhiN rowOf (n + 4) 234 [.ins 1, .int p] [c0, tk cs a o] Q X := by
  refine phi_in (r := r_Tokenizer_character) w_Tokenizer_character (by decide) (gk h) rfl ?_
  show wpSs _ c_Tokenizer_character ⟨[some (.ins 1), some (.int p), none, none], _⟩ _ _
  unfold c_Tokenizer_character
  walk_at "vk"
  cases hr with
  | @esc _ m h1 h2 =>
    rw [List.drop_drop] at h2
    have hj := hd_some (show hd (cs.drop (p + 2)) ≠ -1 by rw [h1]; decide)
    walk_at "vb"
    refine s_escape (p := p + 2) h hf hj (fun z => ?_) (fun v' m' z => ?_)
    · rw [h2] at z; cases z
    · rw [h2] at z
      injection z with z
      injection z with z1 z2
      subst z1 z2
      have hv : ¬ v < 0 := Int.not_lt.mpr (escF_range h2).1
      walk_at "vb"
      rw [Nat.add_assoc (p + 2) 1 m]
      exact kk
  | twin h1 h2 =>
    rw [List.drop_drop] at h2
    walk_at "vb"
    exact kk
  | plain h1 h2 h3 =>
    walk_at "vb"
    exact kk
theorem s_char_bad (h : c0.ok = true) (hf : cs.length ≤ 50000) {p : Nat} (h1 : hd (cs.drop (p + 2)) = 39) (h2 : hd (cs.drop (p + 3)) ≠ 39)
    (kk : X ("bad_number", p, (placeF (cs.take p)).1, (placeF (cs.take p)).2) [c0, tk cs ((p + 3 : Nat) : Int) o]) : PhiN rowOf (n + 4) 234 [.ins 1, .int p] [c0, tk cs a o] Q X := by
  refine phi_in (r := r_Tokenizer_character) w_Tokenizer_character (by decide) (gk h) rfl ?_
  show wpSs _ c_Tokenizer_character ⟨[some (.ins 1), some (.int p), none, none], _⟩ _ _
  unfold c_Tokenizer_character
  walk_at "vb"
  exact kk
theorem numBase_bits (c : Int) : Builtin.Int.intBits (numBase c) ≤ 64 := by
  have hh : ∀ x : Int, x = 2 ∨ x = 8 ∨ x = 16 ∨ x = 0 → Builtin.Int.intBits x ≤ 64 := by rintro x (rfl | rfl | rfl | rfl) <;> decide +kernel
  refine hh _ ?_
  unfold numBase
  split
  · exact Or.inl rfl
  · split
    · exact Or.inr (Or.inl rfl)
    · split
      · exact Or.inr (Or.inr (Or.inl rfl))
      · exact Or.inr (Or.inr (Or.inr rfl))

inductive NumR : List Int → Int → Nat → Prop
  | chr {l : List Int} {v : Int} {k : Nat} : hd l = 48 → hd (l.drop 1) = 39 → ChR (l.drop 2) v k → NumR l v (2 + k)
  | base {l : List Int} : hd l = 48 → hd (l.drop 1) ≠ 39 → 0 ≤ digitV (hd (l.drop 2)) → digitV (hd (l.drop 2)) < numBase (hd (l.drop 1)) → NumR l (valOf (numBase (hd (l.drop 1))) (digRun (numBase (hd (l.drop 1))) (l.drop 2))) (2 + (digRun (numBase (hd (l.drop 1))) (l.drop 2)).length)
  | dec {l : List Int} : ¬ (hd l = 48 ∧ (hd (l.drop 1) = 39 ∨ (0 ≤ digitV (hd (l.drop 2)) ∧ digitV (hd (l.drop 2)) < numBase (hd (l.drop 1))))) → ¬ (hd (l.drop (digRun 10 l).length) = 46 ∧ isDigitB (hd (l.drop ((digRun 10 l).length + 1))) = true) → NumR l (valOf 10 (digRun 10 l)) (digRun 10 l).length

theorem s_numeral (h : c0.ok = true) (hf : cs.length ≤ 50000) {p k : Nat} {v : Int} (hp : p ≤ cs.length) (hr : NumR (cs.drop p) v k)
    (kk : Q (.tup [.str "int", .int v, .int p]) [c0, tk cs ((p + k : Nat) : Int) o]) : PhiN rowOf (n + 5) 220 [.ins 1, .int p] [c0, tk cs a o] Q X := by
  refine phi_in (r := r_Tokenizer_numeral) w_Tokenizer_numeral (by decide) (gk h) rfl ?_
  show wpSs _ c_Tokenizer_numeral ⟨[some (.ins 1), some (.int p), none, none, none, none], _⟩ _ _
  unfold c_Tokenizer_numeral
  walk_at "vk"
  cases hr with
  | @chr _ k h1 h2 h3 =>
    rw [List.drop_drop] at h2 h3
    walk_at "vb"
    refine s_char h hf h3 ?_
    walk_at "vb"
    rw [Nat.add_assoc p 2 k]
    exact kk
  | base h1 h2 h3 h4 =>
    rw [List.drop_drop] at h3 h4
    rw [List.drop_drop] at h2 h4
    rw [List.drop_drop, List.drop_drop] at kk
    have hj := hd_some (show hd (cs.drop (p + 2)) ≠ -1 by intro q; rw [q] at h3; exact absurd h3 (by decide))
    walk_at "vb"
    refine s_digits (p := p + 2) h hf (Nat.le_of_lt hj) (numBase_bits _) ?_
    walk_at "vb"
    rw [Nat.add_assoc p 2]
    exact kk
  | dec h1 h2 =>
    rw [List.drop_drop, List.drop_drop] at h1
    rw [List.drop_drop, List.drop_drop] at h2
    have fin : ∀ x y z : Option AV, wpSs (PhiN rowOf (n + 4)) (.cons (.asg 5 (.meth 0 "digits" 227 (.cons (.var 1) (.cons (.int 10) .nil)))) (.cons (.cif (.bop .And (.cons (.cmp .Eq (.meth 0 "code_at" 143 (.cons (.attr 0 .at) .nil)) (.gint "DOT" (46))) (.cons (.call "is_digit" 60 (.cons (.meth 0 "code_at" 143 (.cons (.bin .Add (.attr 0 .at) (.int 1)) .nil)) .nil)) .nil))) (.cons (.exp (.meth 0 "digits" 227 (.cons (.bin .Add (.attr 0 .at) (.int 1)) (.cons (.int 10) .nil)))) (.cons (.raiseF "bad_number" (.var 1)) .nil)) .nil) (.cons (.ret (.tup (.cons (.str "int") (.cons (.var 5) (.cons (.var 1) .nil))))) .nil)))
        ⟨[some (.ins 1), some (.int p), x, y, z, none], [c0, tk cs a o]⟩ (finP Q) (finX X) := by
      intro x y z
      walk_at "vk"
      refine s_digits h hf hp (by decide +kernel) ?_
      walk_at "vk"
      by_cases h7 : hd (cs.drop (p + (digRun 10 (cs.drop p)).length)) = 46
      · have h8 : isDigitB (hd (cs.drop (p + (digRun 10 (cs.drop p)).length + 1))) = false := by
          cases hh : isDigitB (hd (cs.drop (p + (digRun 10 (cs.drop p)).length + 1))) with
          | false => rfl
          | true => exact absurd ⟨h7, hh⟩ h2
        walk_at "vb"
        exact kk
      · walk_at "vb"
        exact kk
    by_cases h3 : hd (cs.drop p) = 48
    · have h4 : ¬ hd (cs.drop (p + 1)) = 39 := fun z => h1 ⟨h3, Or.inl z⟩
      by_cases h5 : 0 ≤ digitV (hd (cs.drop (p + 2)))
      · have h6 : ¬ digitV (hd (cs.drop (p + 2))) < numBase (hd (cs.drop (p + 1))) := fun z => h1 ⟨h3, Or.inr ⟨h5, z⟩⟩
        repeat (first | walk_at "vbr" | ((with_reducible show wpSs _ (.cons (.asg 5 _) _) _ _ _); exact fin _ _ _) | walk_at "v1")
      · repeat (first | walk_at "vbr" | ((with_reducible show wpSs _ (.cons (.asg 5 _) _) _ _ _); exact fin _ _ _) | walk_at "v1")
    · refine ifF (decide_eq_false h3) ?_
      refine k_nilq ?_
      exact fin _ _ _
theorem s_numeral_bad (h : c0.ok = true) (hf : cs.length ≤ 50000) {p k : Nat} (hp : p ≤ cs.length) (h1 : hd (cs.drop p) ≠ 48) (hk : k = (digRun 10 (cs.drop p)).length) (h2 : hd (cs.drop (p + k)) = 46) (h3 : isDigitB (hd (cs.drop (p + k + 1))) = true)
    (kk : X ("bad_number", p, (placeF (cs.take p)).1, (placeF (cs.take p)).2) [c0, tk cs ((p + k + 1 + (digRun 10 (cs.drop (p + k + 1))).length : Nat) : Int) o]) : PhiN rowOf (n + 5) 220 [.ins 1, .int p] [c0, tk cs a o] Q X := by
  have hj := hd_some (show hd (cs.drop (p + k)) ≠ -1 by rw [h2]; decide)
  refine phi_in (r := r_Tokenizer_numeral) w_Tokenizer_numeral (by decide) (gk h) rfl ?_
  show wpSs _ c_Tokenizer_numeral ⟨[some (.ins 1), some (.int p), none, none, none, none], _⟩ _ _
  unfold c_Tokenizer_numeral
  walk_at "vb"
  refine s_digits h hf hp (by decide +kernel) ?_
  rw [← hk]
  walk_at "vb"
  refine s_digits (p := p + k + 1) h hf hj (by decide +kernel) ?_
  walk_at "vb"
  exact kk
end

-- V10
noncomputable def punctStr : Str := ")[]{},|"
noncomputable def soloStr : Str := "!;"
noncomputable def chOf (c : Int) : Str := ⟨#[(if 0 > c then 0 else c).toNat]⟩
noncomputable def cls (c : Int) : Nat :=
  if c = 40 then 0 else if isSmallB c = true then 1 else if isCapitalB c = true ∨ c = 95 then 2 else if isDigitB c = true then 3 else if c = 39 then 4 else if c = 34 then 5 else if c = 96 then 6 else if isSymbolB c = true then 7
  else if Txt.contains punctStr (chOf c) = true then 8 else if Txt.contains soloStr (chOf c) = true then 9 else 10
theorem ite_sk {p : Prop} [Decidable p] {a r i : Nat} (h : i ≤ if p then a else r) (ha : a < i) : ¬ p ∧ i ≤ r := by
  by_cases hp : p
  · rw [if_pos hp] at h; exact absurd h (Nat.not_le.mpr ha)
  · rw [if_neg hp] at h; exact ⟨hp, h⟩
theorem ite_tk {p : Prop} [Decidable p] {a r i : Nat} (h : (if p then a else r) = i) (hr : i < r) : p := by
  by_cases hp : p
  · exact hp
  · rw [if_neg hp] at h; exact absurd h (Nat.ne_of_gt hr)
theorem ite_ge {p : Prop} [Decidable p] {a r m : Nat} (h1 : m < a) (h2 : m < r) : m < if p then a else r := by by_cases hp : p <;> simp only [hp, if_true, if_false, h1, h2]
noncomputable def cls9 (c : Int) : Nat := if Txt.contains soloStr (chOf c) = true then 9 else 10
noncomputable def cls8 (c : Int) : Nat := if Txt.contains punctStr (chOf c) = true then 8 else cls9 c
noncomputable def cls7 (c : Int) : Nat := if isSymbolB c = true then 7 else cls8 c
noncomputable def cls4 (c : Int) : Nat := if c = 39 then 4 else if c = 34 then 5 else if c = 96 then 6 else cls7 c
noncomputable def cls3 (c : Int) : Nat := if isDigitB c = true then 3 else cls4 c
noncomputable def cls2 (c : Int) : Nat := if isCapitalB c = true ∨ c = 95 then 2 else cls3 c
noncomputable def cls1 (c : Int) : Nat := if isSmallB c = true then 1 else cls2 c
theorem cls_1 (c : Int) : cls c = if c = 40 then 0 else cls1 c := rfl
theorem l9 (c : Int) : 8 < cls9 c := ite_ge (by decide) (by decide)
theorem l8 (c : Int) : 7 < cls8 c := ite_ge (by decide) (Nat.lt_trans (by decide) (l9 c))
theorem l7 (c : Int) : 6 < cls7 c := ite_ge (by decide) (Nat.lt_trans (by decide) (l8 c))
theorem l4 (c : Int) : 3 < cls4 c := ite_ge (by decide) (ite_ge (by decide) (ite_ge (by decide) (Nat.lt_trans (by decide) (l7 c))))
theorem l3 (c : Int) : 2 < cls3 c := ite_ge (by decide) (Nat.lt_trans (by decide) (l4 c))
theorem l2 (c : Int) : 1 < cls2 c := ite_ge (by decide) (Nat.lt_trans (by decide) (l3 c))
theorem hc1 {c : Int} {i : Nat} (h : i ≤ cls c) (hi : 0 < i) : c ≠ 40 ∧ i ≤ cls1 c := ite_sk (cls_1 c ▸ h) hi
theorem hc2 {c : Int} {i : Nat} (h : i ≤ cls c) (hi : 1 < i) : ¬ isSmallB c = true ∧ i ≤ cls2 c := ite_sk (hc1 h (Nat.lt_trans (by decide) hi)).2 hi
theorem hc3 {c : Int} {i : Nat} (h : i ≤ cls c) (hi : 2 < i) : ¬ (isCapitalB c = true ∨ c = 95) ∧ i ≤ cls3 c := ite_sk (hc2 h (Nat.lt_trans (by decide) hi)).2 hi
theorem hc4 {c : Int} {i : Nat} (h : i ≤ cls c) (hi : 3 < i) : ¬ isDigitB c = true ∧ i ≤ cls4 c := ite_sk (hc3 h (Nat.lt_trans (by decide) hi)).2 hi
theorem hc5 {c : Int} {i : Nat} (h : i ≤ cls c) (hi : 6 < i) : c ≠ 39 ∧ c ≠ 34 ∧ c ≠ 96 ∧ i ≤ cls7 c :=
  have a := ite_sk (hc4 h (Nat.lt_trans (by decide) hi)).2 (Nat.lt_trans (by decide) hi)
  have b := ite_sk a.2 (Nat.lt_trans (by decide) hi)
  have d := ite_sk b.2 hi
  ⟨a.1, b.1, d.1, d.2⟩
theorem hc8 {c : Int} {i : Nat} (h : i ≤ cls c) (hi : 7 < i) : ¬ isSymbolB c = true ∧ i ≤ cls8 c := ite_sk (hc5 h (Nat.lt_trans (by decide) hi)).2.2.2 hi
theorem hc9 {c : Int} {i : Nat} (h : i ≤ cls c) (hi : 8 < i) : ¬ Txt.contains punctStr (chOf c) = true ∧ i ≤ cls9 c := ite_sk (hc8 h (Nat.lt_trans (by decide) hi)).2 hi
theorem eq_cls {c : Int} {i : Nat} (h : cls c = i) (hi : 0 < i) : cls1 c = i := by rw [cls_1, if_neg (hc1 (Nat.le_of_eq h.symm) hi).1] at h; exact h
theorem eq_cls2 {c : Int} {i : Nat} (h : cls c = i) (hi : 1 < i) : cls2 c = i := by have := eq_cls h (Nat.lt_trans (by decide) hi); unfold cls1 at this; rw [if_neg (hc2 (Nat.le_of_eq h.symm) hi).1] at this; exact this
theorem eq_cls3 {c : Int} {i : Nat} (h : cls c = i) (hi : 2 < i) : cls3 c = i := by have := eq_cls2 h (Nat.lt_trans (by decide) hi); unfold cls2 at this; rw [if_neg (hc3 (Nat.le_of_eq h.symm) hi).1] at this; exact this
theorem eq_cls7 {c : Int} {i : Nat} (h : cls c = i) (hi : 6 < i) : cls7 c = i := by
  have := eq_cls3 h (Nat.lt_trans (by decide) hi)
  have q := hc5 (Nat.le_of_eq h.symm) hi
  unfold cls3 at this; rw [if_neg (hc4 (Nat.le_of_eq h.symm) (Nat.lt_trans (by decide) hi)).1] at this; unfold cls4 at this; rw [if_neg q.1, if_neg q.2.1, if_neg q.2.2.1] at this; exact this
theorem eq_cls8 {c : Int} {i : Nat} (h : cls c = i) (hi : 7 < i) : cls8 c = i := by have := eq_cls7 h (Nat.lt_trans (by decide) hi); unfold cls7 at this; rw [if_neg (hc8 (Nat.le_of_eq h.symm) hi).1] at this; exact this
theorem eq_cls9 {c : Int} {i : Nat} (h : cls c = i) (hi : 8 < i) : cls9 c = i := by have := eq_cls8 h (Nat.lt_trans (by decide) hi); unfold cls8 at this; rw [if_neg (hc9 (Nat.le_of_eq h.symm) hi).1] at this; exact this
theorem cls_word {c : Int} (h : cls c = 1) : c ≠ 40 ∧ isSmallB c = true := ⟨(hc1 (Nat.le_of_eq h.symm) (by decide)).1, ite_tk (eq_cls h (by decide)) (l2 c)⟩
theorem cls_var {c : Int} (h : cls c = 2) : c ≠ 40 ∧ isSmallB c = false ∧ (isCapitalB c = true ∨ c = 95) :=
  ⟨(hc1 (Nat.le_of_eq h.symm) (by decide)).1, Bool.eq_false_iff.mpr (hc2 (Nat.le_of_eq h.symm) (by decide)).1, ite_tk (eq_cls2 h (by decide)) (l3 c)⟩
theorem cls_hi {c : Int} (h : 3 ≤ cls c) : c ≠ 40 ∧ isSmallB c = false ∧ isCapitalB c = false ∧ c ≠ 95 :=
  ⟨(hc1 h (by decide)).1, Bool.eq_false_iff.mpr (hc2 h (by decide)).1, Bool.eq_false_iff.mpr fun z => (hc3 h (by decide)).1 (.inl z), fun z => (hc3 h (by decide)).1 (.inr z)⟩
theorem cls_dig {c : Int} (h : cls c = 3) : isDigitB c = true := ite_tk (eq_cls3 h (by decide)) (l4 c)
theorem cls_hi2 {c : Int} (h : 7 ≤ cls c) : isDigitB c = false ∧ c ≠ 39 ∧ c ≠ 34 ∧ c ≠ 96 :=
  ⟨Bool.eq_false_iff.mpr (hc4 h (by decide)).1, (hc5 h (by decide)).1, (hc5 h (by decide)).2.1, (hc5 h (by decide)).2.2.1⟩
theorem cls_sym {c : Int} (h : cls c = 7) : isSymbolB c = true := ite_tk (eq_cls7 h (by decide)) (l8 c)
theorem cls_hi3 {c : Int} (h : 8 ≤ cls c) : isSymbolB c = false := Bool.eq_false_iff.mpr (hc8 h (by decide)).1
theorem cls_pun {c : Int} (h : cls c = 8) : Txt.contains punctStr (chOf c) = true := ite_tk (eq_cls8 h (by decide)) (l9 c)
theorem cls_hi4 {c : Int} (h : 9 ≤ cls c) : Txt.contains punctStr (chOf c) = false := Bool.eq_false_iff.mpr (hc9 h (by decide)).1
theorem cls_solo {c : Int} (h : cls c = 9) : Txt.contains soloStr (chOf c) = true := ite_tk (eq_cls9 h (by decide)) (by decide)
theorem cls_none {c : Int} (h : cls c = 10) : Txt.contains soloStr (chOf c) = false := by
  have := eq_cls9 h (by decide)
  refine Bool.eq_false_iff.mpr fun z => ?_
  unfold cls9 at this; rw [if_pos z] at this; exact absurd this (by decide)

noncomputable def endsB (l : List Int) : Prop := hd l = 46 ∧ (hd (l.drop 1) = -1 ∨ hd (l.drop 1) = 37 ∨ isLayoutB (hd (l.drop 1)) = true)
/-- the token that begins at l: kind, value, codes eaten; `near`: no gap before it and not at the origin -/
inductive TokR (near : Prop) : List Int → Str → AV → Nat → Prop
  | eof : TokR near [] "eof" (.str "") 0
  | opn {l : List Int} : hd l = 40 → ¬ near → TokR near l "open" (.str "(") 1
  | opc {l : List Int} : hd l = 40 → near → TokR near l "open_ct" (.str "(") 1
  | word {l : List Int} : cls (hd l) = 1 → TokR near l "name" (.str (textOf (l.take (wordN l)))) (wordN l)
  | var {l : List Int} : cls (hd l) = 2 → TokR near l "var" (.str (textOf (l.take (wordN l)))) (wordN l)
  | int {l : List Int} {v : Int} {k : Nat} : cls (hd l) = 3 → NumR l v k → TokR near l "int" (.int v) k
  | qname {l vs : List Int} {k : Nat} : hd l = 39 → QuR 39 (l.drop 1) vs .ok k → (∀ c ∈ vs, 0 ≤ c ∧ c ≤ 1114111) → TokR near l "qname" (.str (textOf vs)) (1 + k)
  | string {l vs : List Int} {k : Nat} : hd l = 34 → QuR 34 (l.drop 1) vs .ok k → TokR near l "string" (.tup (vs.map .int)) (1 + k)
  | back {l vs : List Int} {k : Nat} : hd l = 96 → QuR 96 (l.drop 1) vs .ok k → TokR near l "back" (.tup (vs.map .int)) (1 + k)
  | fin {l : List Int} : endsB l → TokR near l "end" (.str ".") 1
  | sym {l : List Int} : cls (hd l) = 7 → ¬ endsB l → TokR near l "name" (.str (textOf (l.take (symN l)))) (symN l)
  | pun {l : List Int} : cls (hd l) = 8 → TokR near l "punct" (.str (chOf (hd l))) 1
  | solo {l : List Int} : cls (hd l) = 9 → TokR near l "name" (.str (chOf (hd l))) 1

theorem quR_len {q : Int} {l vs : List Int} {e : QuE} {k : Nat} (hq : q = 39 ∨ q = 34 ∨ q = 96) (h : QuR q l vs e k) : vs.length ≤ k := by
  induction h with
  | stop | unf | badE | und => simp
  | twin _ _ _ ih => simp; lia
  | cont _ _ _ ih => lia
  | esc _ _ _ _ ih => simp; lia
  | plain _ _ _ _ _ _ ih => simp; lia
theorem hd_pos {l : List Int} (h : hd l ≠ -1) : 0 < l.length := hd_some (cs := l) (j := 0) h
theorem quR_le {q : Int} {l vs : List Int} {e : QuE} {k : Nat} (hq : q = 39 ∨ q = 34 ∨ q = 96) (h : QuR q l vs e k) : e = .ok → k ≤ l.length := by
  have hq1 : q ≠ -1 := by lia
  have sh : ∀ (d : Nat) (e : QuE), e.sh d = .ok → e = .ok := by
    intro d e h
    cases e with
    | ok => rfl
    | unf => cases h
    | bad kd z => cases h
  induction h with
  | stop h1 _ => intro _; exact hd_pos (by rw [h1]; exact hq1)
  | unf => intro h; cases h
  | badE => intro h; cases h
  | und => intro h; cases h
  | @twin l vs e k h1 h2 _ ih => 
    intro h
    have h5 := ih (sh _ _ h)
    have h6 := hd_some (cs := l) (j := 1) (by rw [h2]; exact hq1)
    rw [List.length_drop] at h5; lia
  | @cont l vs e k h1 h2 _ ih =>
    intro h
    have h5 := ih (sh _ _ h)
    have h6 := hd_some (cs := l) (j := 1) (by rw [h2]; decide)
    rw [List.length_drop] at h5; lia
  | @esc l vs e k m v h1 h2 h3 _ ih =>
    intro h
    have h5 := ih (sh _ _ h)
    have h6 := escF_range h3
    rw [List.length_drop] at h5 h6; lia
  | @plain l vs e k h1 h2 h3 h4 h5 _ ih =>
    intro h
    have h7 := ih (sh _ _ h)
    have h6 := hd_pos h2
    rw [List.length_drop] at h7; lia

section
variable {n : Nat} {c0 : Cell} {cs : List Int} {a o : Int} {Q : AV → List Cell → Prop} {X : Phi → List Cell → Prop}
theorem closedT (s : Str) (vs : List Int) (x : Int) : (AV.tup [.str s, .tup (vs.map .int), .int x]).closed = true := by show (true && (AV.closedL (vs.map .int) && (true && true))) = true; rw [closedL_ints]; rfl
theorem lo_of {cs : List Int} {q : Nat} (h : hd (cs.drop q) ≠ -1) : ¬ (cs.length : Int) ≤ q := by have := hd_some h; lia
theorem lo_cls {cs : List Int} {q i : Nat} (z : cls (hd (cs.drop q)) = i) (w : i ≠ 10) : ¬ (cs.length : Int) ≤ q :=
  lo_of fun y => by rw [y] at z; exact w (z.symm.trans (by decide +kernel))
theorem lt_lo {cs : List Int} {q : Nat} (h : ¬ (cs.length : Int) ≤ q) : q < cs.length := by lia
theorem le_lo {cs : List Int} {q : Nat} (h : ¬ (cs.length : Int) ≤ q) : q ≤ cs.length := by lia
theorem ite_nn (x : Int) : 0 ≤ (if 0 > x then 0 else x) := by split <;> lia
theorem ite_le {x : Int} (h : x ≤ 1114111) : (if 0 > x then 0 else x) ≤ 1114111 := by split <;> lia
set_option maxHeartbeats 4000000 in
theorem s_next (h : c0.ok = true) (hf : cs.length ≤ 50000) {p k m q : Nat} {kd : Str} {v : AV} (hp : p ≤ cs.length) (hs : SkipL (cs.drop p) k) (hq : q = p + k) (ht : TokR (k = 0 ∧ (q : Int) ≠ o) (cs.drop q) kd v m)
    (kk : Q (.tup [.str kd, v, .int q]) [c0, tk cs ((q + m : Nat) : Int) o]) : PhiN rowOf (n + 6) 164 [.ins 1] [c0, tk cs p o] Q X := by
  generalize hl : cs.drop q = l at ht
  refine phi_in (r := r_Tokenizer_next) w_Tokenizer_next (by decide) (gk h) rfl ?_
  show wpSs _ c_Tokenizer_next ⟨[some (.ins 1), none, none, none, none], _⟩ _ _
  unfold c_Tokenizer_next
  walk_at "vk"
  refine s_skip_layout h hf hp hs ?_
  rw [← hq]
  walk_at "vk"
  cases ht with
  | eof =>
    have hlen' : (cs.length : Int) ≤ q := by
      have := congrArg List.length hl
      rw [List.length_drop, List.length_nil] at this; lia
    walk_at "vb"
    exact kk
  | opn hc hn =>
    rw [← hl] at hc
    have lo := lo_of (q := q) (show hd (cs.drop q) ≠ -1 by rw [hc]; decide)
    walk_at "vb"
    by_cases hpq : (p : Int) < q
    · walk_at "vb"
      exact kk
    · have hqo : (q : Int) = o := Decidable.not_not.mp fun z => hn ⟨by lia, z⟩
      walk_at "vb"
      exact kk
  | opc hc hn =>
    rw [← hl] at hc
    have lo := lo_of (q := q) (show hd (cs.drop q) ≠ -1 by rw [hc]; decide)
    have hpq : ¬ (p : Int) < q := by lia
    have hn := hn.2
    walk_at "vb"
    exact kk
  | word hc =>
    rw [← hl] at hc kk
    have lo := lo_cls (q := q) hc (by decide)
    have h1 := (cls_word hc).1
    have h2 := (cls_word hc).2
    walk_at "vb"
    refine s_word h hf (le_lo lo) ?_
    walk_at "vb"
    exact kk
  | var hc =>
    rw [← hl] at hc kk
    have lo := lo_cls (q := q) hc (by decide)
    have h1 := (cls_var hc).1
    have h2 := (cls_var hc).2.1
    rcases h3 : isCapitalB (hd (cs.drop q)) with _ | _
    · have h5 : hd (cs.drop q) = 95 := (cls_var hc).2.2.resolve_left (by rw [h3]; decide)
      walk_at "vb"
      refine s_word h hf (le_lo lo) ?_
      walk_at "vb"
      exact kk
    · walk_at "vb"
      refine s_word h hf (le_lo lo) ?_
      walk_at "vb"
      exact kk
  | int hc hr =>
    rw [← hl] at hc hr
    have lo := lo_cls (q := q) hc (by decide)
    have h1 := cls_hi (show 3 ≤ cls (hd (cs.drop q)) by lia)
    have h2 := h1.2.1
    have h3 := h1.2.2.1
    have h4 := h1.2.2.2
    have h1 := h1.1
    have h5 := cls_dig hc
    walk_at "vb"
    refine s_numeral h hf (le_lo lo) hr ?_
    walk_at "vb"
    exact kk
  | @qname l vs k hc hr hv =>
    rw [← hl] at hc hr
    have lo := lo_of (q := q) (show hd (cs.drop q) ≠ -1 by rw [hc]; decide)
    have hk2 := quR_le (by decide) hr rfl
    have hk1 := quR_len (by decide) hr
    rw [List.drop_drop] at hr
    rw [List.length_drop, List.length_drop] at hk2
    have h1 : isSmallB (hd (cs.drop q)) = false := by rw [hc]; decide
    have h2 : isCapitalB (hd (cs.drop q)) = false := by rw [hc]; decide
    have h3 : isDigitB (hd (cs.drop q)) = false := by rw [hc]; decide
    walk_at "vb"
    refine s_quoted (p := q) h hf (by decide) (lt_lo lo) hr (fun _ => ?_) (fun z => by cases z) (fun _ _ z => by cases z)
    walk_at "vb"
    refine k_ca (closedL1 vs) ?_
    refine s_codes_text (gk h) (by lia) hv ?_
    walk_at "vb"
    rw [Nat.add_assoc q 1 k]
    exact kk
  | @string l vs k hc hr =>
    rw [← hl] at hc hr
    have lo := lo_of (q := q) (show hd (cs.drop q) ≠ -1 by rw [hc]; decide)
    have hk2 := quR_le (by decide) hr rfl
    have hk1 := quR_len (by decide) hr
    rw [List.drop_drop] at hr
    rw [List.length_drop, List.length_drop] at hk2
    have hl : vs.length ≤ 100000 := by lia
    have h1 : isSmallB (hd (cs.drop q)) = false := by rw [hc]; decide
    have h2 : isCapitalB (hd (cs.drop q)) = false := by rw [hc]; decide
    have h3 : isDigitB (hd (cs.drop q)) = false := by rw [hc]; decide
    walk_at "vb"
    refine s_quoted (p := q) h hf (by decide) (lt_lo lo) hr (fun _ => ?_) (fun z => by cases z) (fun _ _ z => by cases z)
    have hcl : (AV.tup [.str "string", .tup (vs.map .int), .int q]).closed = true := closedT _ vs _
    walk_at "vb"
    rw [Nat.add_assoc q 1 k]
    exact kk
  | @back l vs k hc hr =>
    rw [← hl] at hc hr
    have lo := lo_of (q := q) (show hd (cs.drop q) ≠ -1 by rw [hc]; decide)
    have hk2 := quR_le (by decide) hr rfl
    have hk1 := quR_len (by decide) hr
    rw [List.drop_drop] at hr
    rw [List.length_drop, List.length_drop] at hk2
    have hl : vs.length ≤ 100000 := by lia
    have h1 : isSmallB (hd (cs.drop q)) = false := by rw [hc]; decide
    have h2 : isCapitalB (hd (cs.drop q)) = false := by rw [hc]; decide
    have h3 : isDigitB (hd (cs.drop q)) = false := by rw [hc]; decide
    walk_at "vb"
    refine s_quoted (p := q) h hf (by decide) (lt_lo lo) hr (fun _ => ?_) (fun z => by cases z) (fun _ _ z => by cases z)
    have hcl : (AV.tup [.str "back", .tup (vs.map .int), .int q]).closed = true := closedT _ vs _
    walk_at "vb"
    rw [Nat.add_assoc q 1 k]
    exact kk
  | fin hc =>
    rw [← hl] at hc
    have he := hc.2
    have hc := hc.1
    rw [List.drop_drop] at he
    have lo := lo_of (q := q) (show hd (cs.drop q) ≠ -1 by rw [hc]; decide)
    have h1 : isSmallB (hd (cs.drop q)) = false := by rw [hc]; decide
    have h2 : isCapitalB (hd (cs.drop q)) = false := by rw [hc]; decide
    have h3 : isDigitB (hd (cs.drop q)) = false := by rw [hc]; decide
    have h4 : isSymbolB (hd (cs.drop q)) = true := by rw [hc]; decide +kernel
    walk_at "vb"
    refine s_symbol_end h hf hc he ?_
    walk_at "vb"
    exact kk
  | sym hc he =>
    rw [← hl] at hc he kk
    have lo := lo_cls (q := q) hc (by decide)
    unfold endsB at he
    rw [List.drop_drop] at he
    have h0 := cls_hi (show 3 ≤ cls (hd (cs.drop q)) by lia)
    have h1 := h0.1
    have h2 := h0.2.1
    have h3 := h0.2.2.1
    have h4 := h0.2.2.2
    have h0 := cls_hi2 (show 7 ≤ cls (hd (cs.drop q)) by lia)
    have h5 := h0.1
    have h6 := h0.2.1
    have h7 := h0.2.2.1
    have h8 := h0.2.2.2
    have h9 := cls_sym hc
    walk_at "vb"
    refine s_symbol_name h hf (le_lo lo) he ?_
    walk_at "vb"
    exact kk
  | pun hc =>
    rw [← hl] at hc kk
    have lo := lo_cls (q := q) hc (by decide)
    have h0 := cls_hi (show 3 ≤ cls (hd (cs.drop q)) by lia)
    have h1 := h0.1
    have h2 := h0.2.1
    have h3 := h0.2.2.1
    have h4 := h0.2.2.2
    have h0 := cls_hi2 (show 7 ≤ cls (hd (cs.drop q)) by lia)
    have h5 := h0.1
    have h6 := h0.2.1
    have h7 := h0.2.2.1
    have h8 := h0.2.2.2
    have h9 := cls_hi3 (show 8 ≤ cls (hd (cs.drop q)) by lia)
    have h10 : Txt.contains ")[]{},|" ⟨#[(if 0 > hd (cs.drop q) then 0 else hd (cs.drop q)).toNat]⟩ = true := cls_pun hc
    have m1 := ite_nn (hd (cs.drop q))
    have m2 := ite_le (hd_le (cs.drop q))
    walk_at "vb"
    exact kk
  | solo hc =>
    rw [← hl] at hc kk
    have lo := lo_cls (q := q) hc (by decide)
    have h0 := cls_hi (show 3 ≤ cls (hd (cs.drop q)) by lia)
    have h1 := h0.1
    have h2 := h0.2.1
    have h3 := h0.2.2.1
    have h4 := h0.2.2.2
    have h0 := cls_hi2 (show 7 ≤ cls (hd (cs.drop q)) by lia)
    have h5 := h0.1
    have h6 := h0.2.1
    have h7 := h0.2.2.1
    have h8 := h0.2.2.2
    have h9 := cls_hi3 (show 8 ≤ cls (hd (cs.drop q)) by lia)
    have h10 : Txt.contains ")[]{},|" ⟨#[(if 0 > hd (cs.drop q) then 0 else hd (cs.drop q)).toNat]⟩ = false := cls_hi4 (show 9 ≤ cls (hd (cs.drop q)) by lia)
    have h11 : Txt.contains "!;" ⟨#[(if 0 > hd (cs.drop q) then 0 else hd (cs.drop q)).toNat]⟩ = true := cls_solo hc
    have m1 := ite_nn (hd (cs.drop q))
    have m2 := ite_le (hd_le (cs.drop q))
    walk_at "vb"
    exact kk
end

-- V11
inductive FauR : List Int → Str → Nat → Nat → Prop
  | unf {q : Int} {l vs : List Int} {k : Nat} : (q = 39 ∨ q = 34 ∨ q = 96) → hd l = q → QuR q (l.drop 1) vs .unf k → FauR l "unfinished_quoted" 0 (1 + k)
  | bad {q : Int} {l vs : List Int} {kd : Str} {d k : Nat} : (q = 39 ∨ q = 34 ∨ q = 96) → hd l = q → QuR q (l.drop 1) vs (.bad kd d) k → FauR l kd (1 + d) (1 + k)
  | chr {l : List Int} : hd l = 48 → hd (l.drop 1) = 39 → hd (l.drop 2) = 39 → hd (l.drop 3) ≠ 39 → FauR l "bad_number" 0 3
  | num {l : List Int} : cls (hd l) = 3 → hd l ≠ 48 → hd (l.drop (digRun 10 l).length) = 46 → isDigitB (hd (l.drop ((digRun 10 l).length + 1))) = true → FauR l "bad_number" 0 ((digRun 10 l).length + 1 + (digRun 10 (l.drop ((digRun 10 l).length + 1))).length)
  | und {l : List Int} : hd l ≠ -1 → cls (hd l) = 10 → FauR l "undefined_char" 0 1

section
variable {n : Nat} {c0 : Cell} {cs : List Int} {a o : Int} {Q : AV → List Cell → Prop} {X : Phi → List Cell → Prop}
theorem s_numeral_chr (h : c0.ok = true) (hf : cs.length ≤ 50000) {p : Nat} (h1 : hd (cs.drop p) = 48) (h2 : hd (cs.drop (p + 1)) = 39) (h3 : hd (cs.drop (p + 2)) = 39) (h4 : hd (cs.drop (p + 3)) ≠ 39)
    (kk : X ("bad_number", p, (placeF (cs.take p)).1, (placeF (cs.take p)).2) [c0, tk cs ((p + 3 : Nat) : Int) o]) : PhiN rowOf (n + 5) 220 [.ins 1, .int p] [c0, tk cs a o] Q X := by
  refine phi_in (r := r_Tokenizer_numeral) w_Tokenizer_numeral (by decide) (gk h) rfl ?_
  show wpSs _ c_Tokenizer_numeral ⟨[some (.ins 1), some (.int p), none, none, none, none], _⟩ _ _
  unfold c_Tokenizer_numeral
  walk_at "vb"
  refine s_char_bad h hf h3 h4 ?_
  walk_at "vb"
  exact kk
set_option maxHeartbeats 4000000 in
theorem s_next_qu (h : c0.ok = true) (hf : cs.length ≤ 50000) {p k m q : Nat} (hp : p ≤ cs.length) (hs : SkipL (cs.drop p) k) (hq : q = p + k) {qq : Int} {vs : List Int} {e : QuE} (hqq : qq = 39 ∨ qq = 34 ∨ qq = 96) (hc : hd (cs.drop q) = qq) (hr : QuR qq (cs.drop (q + 1)) vs e m) (ne : e ≠ .ok)
    (k2 : e = .unf → X ("unfinished_quoted", q, (placeF (cs.take q)).1, (placeF (cs.take q)).2) [c0, tk cs ((q + 1 + m : Nat) : Int) o])
    (k3 : ∀ kd d, e = .bad kd d → X (kd, ((q + 1 + d : Nat) : Int), (placeF (cs.take (q + 1 + d))).1, (placeF (cs.take (q + 1 + d))).2) [c0, tk cs ((q + 1 + m : Nat) : Int) o]) : PhiN rowOf (n + 6) 164 [.ins 1] [c0, tk cs p o] Q X := by
  have lo := lo_of (q := q) (show hd (cs.drop q) ≠ -1 by lia)
  refine phi_in (r := r_Tokenizer_next) w_Tokenizer_next (by decide) (gk h) rfl ?_
  show wpSs _ c_Tokenizer_next ⟨[some (.ins 1), none, none, none, none], _⟩ _ _
  unfold c_Tokenizer_next
  walk_at "vk"
  refine s_skip_layout h hf hp hs ?_
  rw [← hq]
  have h1 : isSmallB (hd (cs.drop q)) = false := by rw [hc]; rcases hqq with rfl | rfl | rfl <;> decide
  have h2 : isCapitalB (hd (cs.drop q)) = false := by rw [hc]; rcases hqq with rfl | rfl | rfl <;> decide
  have h3 : isDigitB (hd (cs.drop q)) = false := by rw [hc]; rcases hqq with rfl | rfl | rfl <;> decide
  have h4 : ¬ hd (cs.drop q) = 40 := by lia
  have h5 : ¬ hd (cs.drop q) = 95 := by lia
  walk_at "vb"
  by_cases e1 : hd (cs.drop q) = 39
  · have := hc.symm.trans e1
    subst this
    walk_at "vb"
    refine s_quoted (p := q) h hf (by decide) (lt_lo lo) hr (fun z => absurd z ne) (fun z => ?_) (fun kd d z => ?_)
    · walk_at "vb"
      exact k2 z
    · walk_at "vb"
      exact k3 kd d z
  · refine ifF (decide_eq_false e1) ?_
    walk_at "vb"
    by_cases e2 : hd (cs.drop q) = 34
    · have := hc.symm.trans e2
      subst this
      walk_at "vb"
      refine s_quoted (p := q) h hf (by decide) (lt_lo lo) hr (fun z => absurd z ne) (fun z => ?_) (fun kd d z => ?_)
      · walk_at "vb"
        exact k2 z
      · walk_at "vb"
        exact k3 kd d z
    · have e3 : hd (cs.drop q) = 96 := by lia
      have := hc.symm.trans e3
      subst this
      walk_at "vb"
      refine s_quoted (p := q) h hf (by decide) (lt_lo lo) hr (fun z => absurd z ne) (fun z => ?_) (fun kd d z => ?_)
      · walk_at "vb"
        exact k2 z
      · walk_at "vb"
        exact k3 kd d z
set_option maxHeartbeats 4000000 in
theorem s_next_fault (h : c0.ok = true) (hf : cs.length ≤ 50000) {p k m q d : Nat} {kd : Str} (hp : p ≤ cs.length) (hs : SkipL (cs.drop p) k) (hq : q = p + k) (ht : FauR (cs.drop q) kd d m)
    (kk : X (kd, ((q + d : Nat) : Int), (placeF (cs.take (q + d))).1, (placeF (cs.take (q + d))).2) [c0, tk cs ((q + m : Nat) : Int) o]) : PhiN rowOf (n + 6) 164 [.ins 1] [c0, tk cs p o] Q X := by
  generalize hl : cs.drop q = l at ht
  cases ht with
  | @unf qq l vs k hqq hc hr =>
    rw [← hl] at hc hr
    rw [List.drop_drop] at hr
    rw [← Nat.add_assoc] at kk
    exact s_next_qu h hf hp hs hq hqq hc hr (fun z => by cases z) (fun z => kk) (fun _ _ z => by cases z)
  | @bad qq l vs kd d k hqq hc hr =>
    rw [← hl] at hc hr
    rw [List.drop_drop] at hr
    rw [← Nat.add_assoc, ← Nat.add_assoc] at kk
    exact s_next_qu h hf hp hs hq hqq hc hr (fun z => by cases z) (fun z => by cases z) (fun _ _ z => by cases z; exact kk)
  | chr h1 h2 h3 h4 =>
    rw [← hl] at h1 h2 h3 h4
    rw [List.drop_drop] at h2 h3 h4
    have lo := lo_of (q := q) (show hd (cs.drop q) ≠ -1 by rw [h1]; decide)
    have a1 : isSmallB (hd (cs.drop q)) = false := by rw [h1]; decide
    have a2 : isCapitalB (hd (cs.drop q)) = false := by rw [h1]; decide
    have a3 : isDigitB (hd (cs.drop q)) = true := by rw [h1]; decide
    refine phi_in (r := r_Tokenizer_next) w_Tokenizer_next (by decide) (gk h) rfl ?_
    show wpSs _ c_Tokenizer_next ⟨[some (.ins 1), none, none, none, none], _⟩ _ _
    unfold c_Tokenizer_next
    walk_at "vk"
    refine s_skip_layout h hf hp hs ?_
    rw [← hq]
    walk_at "vb"
    refine s_numeral_chr h hf h1 h2 h3 h4 ?_
    walk_at "vb"
    exact kk
  | num hc h0 h6 h7 =>
    rw [← hl] at hc h0 h6 h7 kk
    rw [List.drop_drop] at h6 h7
    have lo := lo_cls (q := q) hc (by decide)
    have h1 := cls_hi (show 3 ≤ cls (hd (cs.drop q)) by lia)
    have h2 := h1.2.1
    have h3 := h1.2.2.1
    have h4 := h1.2.2.2
    have h1 := h1.1
    have h5 := cls_dig hc
    refine phi_in (r := r_Tokenizer_next) w_Tokenizer_next (by decide) (gk h) rfl ?_
    show wpSs _ c_Tokenizer_next ⟨[some (.ins 1), none, none, none, none], _⟩ _ _
    unfold c_Tokenizer_next
    walk_at "vk"
    refine s_skip_layout h hf hp hs ?_
    rw [← hq]
    walk_at "vb"
    refine s_numeral_bad h hf (le_lo lo) h0 rfl h6 h7 ?_
    walk_at "vb"
    rw [List.drop_drop, ← Nat.add_assoc, ← Nat.add_assoc] at kk
    exact kk
  | und hx hc =>
    rw [← hl] at hx hc
    have lo := lo_of (q := q) hx
    have h0 := cls_hi (show 3 ≤ cls (hd (cs.drop q)) by lia)
    have h1 := h0.1
    have h2 := h0.2.1
    have h3 := h0.2.2.1
    have h4 := h0.2.2.2
    have h0 := cls_hi2 (show 7 ≤ cls (hd (cs.drop q)) by lia)
    have h5 := h0.1
    have h6 := h0.2.1
    have h7 := h0.2.2.1
    have h8 := h0.2.2.2
    have h9 := cls_hi3 (show 8 ≤ cls (hd (cs.drop q)) by lia)
    have h10 : Txt.contains ")[]{},|" ⟨#[(if 0 > hd (cs.drop q) then 0 else hd (cs.drop q)).toNat]⟩ = false := cls_hi4 (show 9 ≤ cls (hd (cs.drop q)) by lia)
    have h11 : Txt.contains "!;" ⟨#[(if 0 > hd (cs.drop q) then 0 else hd (cs.drop q)).toNat]⟩ = false := cls_none hc
    have m1 := ite_nn (hd (cs.drop q))
    have m2 := ite_le (hd_le (cs.drop q))
    refine phi_in (r := r_Tokenizer_next) w_Tokenizer_next (by decide) (gk h) rfl ?_
    show wpSs _ c_Tokenizer_next ⟨[some (.ins 1), none, none, none, none], _⟩ _ _
    unfold c_Tokenizer_next
    walk_at "vk"
    refine s_skip_layout h hf hp hs ?_
    rw [← hq]
    walk_at "vb"
    exact kk
theorem s_next_remark (h : c0.ok = true) (hf : cs.length ≤ 50000) {p k : Nat} (hp : p ≤ cs.length) (hs : SkipLF (cs.drop p) k)
    (kk : X ("unfinished_remark", ((p + k : Nat) : Int), (placeF (cs.take (p + k))).1, (placeF (cs.take (p + k))).2) [c0, tk cs (cs.length : Nat) o]) : PhiN rowOf (n + 6) 164 [.ins 1] [c0, tk cs p o] Q X := by
  refine phi_in (r := r_Tokenizer_next) w_Tokenizer_next (by decide) (gk h) rfl ?_
  show wpSs _ c_Tokenizer_next ⟨[some (.ins 1), none, none, none, none], _⟩ _ _
  unfold c_Tokenizer_next
  walk_at "vk"
  refine s_skip_layout_bad h hf hp hs ?_
  walk_at "vk"
  exact kk
end

-- V12
section
variable {n : Nat} {c0 : Cell} {cs : List Int} {a o : Int} {Q : AV → List Cell → Prop} {X : Phi → List Cell → Prop}
inductive ClR (cs : List Int) (o : Int) (r : Nat) : Nat → Nat → Prop
  | stop {p k q m : Nat} {v : AV} : p ≤ cs.length → SkipL (cs.drop p) k → q = p + k → TokR (k = 0 ∧ (q : Int) ≠ o) (cs.drop q) "end" v m → r = q + m → ClR cs o r p 0
  | step {p k q m t : Nat} {kd : Str} {v : AV} : p ≤ cs.length → SkipL (cs.drop p) k → q = p + k → TokR (k = 0 ∧ (q : Int) ≠ o) (cs.drop q) kd v m → kd ≠ "end" → kd ≠ "eof" → ClR cs o r (q + m) t → ClR cs o r p (t + 1)
theorem s_skip_clause (h : c0.ok = true) (hf : cs.length ≤ 50000) {p r t : Nat} (hr : ClR cs o r p t) (kk : Q .non [c0, tk cs (r : Nat) o]) : PhiN rowOf (n + 7) 171 [.ins 1] [c0, tk cs p o] Q X := by
  have hsz : cs.length ≤ sizeLine := by rw [sizeLine_val]; lia
  rw [phi_iff' w_Tokenizer_skip_clause (by decide) rfl, gcOk_tk]
  refine ⟨h, ?_⟩
  show wpSs _ c_Tokenizer_skip_clause ⟨[some (.ins 1), none], _⟩ _ _
  unfold c_Tokenizer_skip_clause
  walk_at "vc"
  refine c_whl (fun σ m => ∃ (j : Nat) (x : Option AV), ClR cs o r j m ∧ σ = ⟨[some (.ins 1), x], [c0, tk cs j o]⟩) t ⟨p, none, hr, rfl⟩ ?_
  rintro σ m ⟨j, x, hr, rfl⟩
  repeat (first | walk_at "vc" | simp only [h, hsz, true_and])
  cases hr with
  | stop hp hs hq ht he =>
    refine s_next h hf hp hs hq ht ?_
    walk_at "vc"
    subst he
    exact ⟨by decide, by decide, h, kk⟩
  | step hp hs hq ht h1 h2 hr =>
    refine s_next h hf hp hs hq ht ?_
    walk_at "vc"
    refine ⟨by decide, by decide, ?_⟩
    simp only [h1, h2, if_false]
    exact ⟨_, Nat.lt_succ_self _, _, _, hr, rfl⟩
end

-- V13
noncomputable def poolC (fs : List Int) (i m : Int) : Cell := .lst [.lst (fs.map .int), .int i, .int m]
noncomputable def PoolOk (c : Cell) : Prop := ∃ fs i m, c = poolC fs i m ∧ fs.length ≤ 50000 ∧ (∀ f ∈ fs, 0 ≤ f) ∧ 0 ≤ i ∧ 0 ≤ m ∧ m < 1009
theorem closed_ints (l : List Int) : (AV.lst (l.map AV.int)).closed = true := by rw [AV.closed]; exact closedL_ints l
theorem poolC_ok (fs : List Int) (i m : Int) : (poolC fs i m).ok = true := by
  show (AV.closedL [.lst (fs.map .int), .int i, .int m]) = true
  rw [AV.closedL, closed_ints]; rfl
section
variable {n : Nat} {c0 c1 : Cell} {Q : AV → List Cell → Prop} {X : Phi → List Cell → Prop}
theorem s_pick (h0 : PoolOk c0) (h1 : c1.ok = true) {b : Int} (hb : 0 < b) (hb2 : b < 100000) (k : ∀ c0' x, PoolOk c0' → 0 ≤ x → x < b → Q (.int x) [c0', c1]) : PhiN rowOf (n + 1) 276 [.ref 0, .int b] [c0, c1] Q X := by
  obtain ⟨fs, i, m, rfl, hl, hf, hi, hm, hm2⟩ := h0
  have hsz : fs.length ≤ sizeLine := by rw [sizeLine_val]; lia
  rw [phi_iff' w_law_pick (by decide) rfl]
  refine ⟨by rw [gcOk_eq, poolC_ok, h1]; rfl, ?_⟩
  show wpSs _ c_law_pick ⟨[some (.ref 0), some (.int b), none], _⟩ _ _
  unfold c_law_pick poolC
  repeat (first | walk_at "vc" | simp only [hsz, true_and, items_ref, seq_ref, exP, toNat_0, toNat_1, toNat_2])
  refine ⟨by decide, by decide, by decide, by decide, ?_⟩
  have ok : ∀ (i m : Int), gcOk [.lst [.lst (fs.map .int), .int i, .int m], c1] = true := fun i m => by
    rw [gcOk_eq, h1, Bool.and_true]; exact poolC_ok fs i m
  by_cases hi2 : i < fs.length
  · simp only [hi2, if_true]
    have hlt : i.toNat < fs.length := by lia
    refine ⟨by decide, by decide, by decide, by decide, hi, by lia, ?_⟩
    rw [List.getElem?_map, List.getElem?_eq_getElem hlt]
    show wpS _ _ _ _ _
    refine c_augSub (vs := [some (.ref 0), some (.int b), some (.int fs[i.toNat])]) (k := 0) (xs := [.lst (fs.map .int), .int i, .int m]) (x := i) _ _ _ _ rfl rfl rfl (by decide) (show 3 ≤ 100000 by decide) ?_
    walk_at "vc"
    exact ⟨by lia, ok _ _, k _ _ ⟨fs, i + 1, m, rfl, hl, hf, by lia, hm, hm2⟩ (Int.fmod_nonneg_of_pos _ hb) (Int.fmod_lt_of_pos _ hb)⟩
  · simp only [hi2, if_false]
    refine ⟨by decide, by decide, ?_⟩
    by_cases h3 : (fs.length : Int) < 3
    · simp only [h3, if_true]
      exact ⟨by lia, ok _ _, k _ _ ⟨fs, i, m, rfl, hl, hf, hi, hm, hm2⟩ (Int.fmod_nonneg_of_pos _ hb) (Int.fmod_lt_of_pos _ hb)⟩
    · simp only [h3, if_false]
      refine ⟨by decide, by decide, IntMulOk.of_right (by decide +kernel), by decide, by decide, by decide, by decide, by decide, by decide, by lia, ok _ _, k _ _ ⟨fs, i, _, rfl, hl, hf, hi, Int.fmod_nonneg_of_pos _ (by decide), Int.fmod_lt_of_pos _ (by decide)⟩ (Int.fmod_nonneg_of_pos _ hb) (Int.fmod_lt_of_pos _ hb)⟩
end

-- V14
section
variable {n : Nat} {c0 c1 : Cell} {Q : AV → List Cell → Prop} {X : Phi → List Cell → Prop}
theorem pool_ok {c : Cell} (h : PoolOk c) : c.ok = true := by
  obtain ⟨fs, i, m, rfl, _⟩ := h; exact poolC_ok fs i m
theorem gc_ok (h0 : PoolOk c0) (h1 : c1.ok = true) : gcOk [c0, c1] = true := by rw [gcOk_eq, pool_ok h0, h1]; rfl
theorem s_code (h0 : PoolOk c0) (h1 : c1.ok = true) (k : ∀ c0' x, PoolOk c0' → 0 ≤ x → x ≤ 1114111 → Q (.int x) [c0', c1]) : PhiN rowOf (n + 2) 295 [.ref 0] [c0, c1] Q X := by
  rw [phi_iff' w_law_code (by decide) rfl]
  refine ⟨gc_ok h0 h1, ?_⟩
  show wpSs _ c_law_code ⟨[some (.ref 0), none, none], _⟩ _ _
  unfold c_law_code
  walk_at "vc"
  refine s_pick (b := 3) h0 h1 (by decide) (by decide) fun c0' x h0 hx hx2 => ?_
  walk_at "vc"
  by_cases hx0 : x = 0
  · simp only [hx0, if_true]
    refine s_pick (b := 128) h0 h1 (by decide) (by decide) fun c0' y h0 hy hy2 => ?_
    walk_at "vc"
    exact ⟨gc_ok h0 h1, k _ _ h0 hy (by lia)⟩
  · simp only [hx0, if_false]
    by_cases hx1 : x = 1
    · simp only [hx1, if_true]
      refine s_pick (b := 840) h0 h1 (by decide) (by decide) fun c0' y h0 hy hy2 => ?_
      walk_at "vc"
      have q1 := Int.fmod_nonneg_of_pos (y * 1327) (show (0 : Int) < 1114112 by decide)
      have q2 := Int.fmod_lt_of_pos (y * 1327) (show (0 : Int) < 1114112 by decide)
      refine ⟨IntMulOk.of_right (by decide +kernel), by decide, ?_⟩
      split
      · exact ⟨gc_ok h0 h1, k _ _ h0 q1 (by lia)⟩
      · split
        · exact ⟨gc_ok h0 h1, k _ _ h0 q1 (by lia)⟩
        · exact ⟨gc_ok h0 h1, k _ _ h0 (by decide) (by decide)⟩
    · simp only [hx1, if_false]
      refine s_pick (b := 5) h0 h1 (by decide) (by decide) fun c0' y h0 hy hy2 => ?_
      walk_at "vc"
      exact ⟨gc_ok h0 h1, k _ _ h0 (by lia) (by lia)⟩
theorem p_inL (σ : AS) (x : Int) (ns : List Int) (Q : Bool → Prop) (h : Q (ns.any (· == x))) : cmpS .In σ (.int x) (.lst (ns.map .int)) Q := ⟨ns, rfl, h⟩
theorem s_plain (h0 : PoolOk c0) (h1 : c1.ok = true) {ns : List Int} (hn : ∀ x ∈ ns, x < 65 ∨ 90 < x) (k : ∀ c0' x, PoolOk c0' → 32 ≤ x → x ≠ 127 → x ∉ ns → x ≤ 1114111 → Q (.int x) [c0', c1]) : PhiN rowOf (n + 3) 302 [.ref 0, .lst (ns.map .int)] [c0, c1] Q X := by
  rw [phi_iff' w_law_plain (by decide) rfl]
  refine ⟨gc_ok h0 h1, ?_⟩
  show wpSs _ c_law_plain ⟨[some (.ref 0), some (.lst (ns.map .int)), none], _⟩ _ _
  unfold c_law_plain
  walk_at "vc"
  refine s_code h0 h1 fun c0' x h0 hx hx2 => ?_
  walk_at "vc"
  have q1 := Int.fmod_nonneg_of_pos x (show (0 : Int) < 26 by decide)
  have q2 := Int.fmod_lt_of_pos x (show (0 : Int) < 26 by decide)
  have fin : PoolOk c0' := h0
  have alt : Q (.int (65 + x.fmod 26)) [c0', c1] := k _ _ h0 (by lia) (by lia) (fun z => by have := hn _ z; lia) (by lia)
  by_cases ha : x < 32
  · simp only [ha, if_true]
    exact ⟨by decide, gc_ok h0 h1, alt⟩
  · simp only [ha, if_false]
    by_cases hb : x = 127
    · simp only [hb, if_true]
      rw [hb] at alt
      exact ⟨by decide, gc_ok h0 h1, alt⟩
    · simp only [hb, if_false]
      refine p_inL _ _ _ _ ?_
      cases hc : ns.any (· == x) with
      | true =>
        simp only [if_true]
        exact ⟨by decide, gc_ok h0 h1, alt⟩
      | false =>
        simp only [if_false, Bool.false_eq_true]
        refine ⟨gc_ok h0 h1, k _ _ h0 (by lia) hb (fun z => ?_) hx2⟩
        rw [List.any_eq_false] at hc
        exact hc x z (by simp)
noncomputable def cods (s : Str) : List Int := s.cps.toList.map fun n : Nat => (n : Int)
theorem s_ords {s : Str} (h : gcOk [c0, c1] = true) (hl : s.length ≤ 100000) (k : Q (.lst ((cods s).map .int)) [c0, c1]) : PhiN rowOf (n + 1) 281 [.str s] [c0, c1] Q X := by
  rw [phi_iff' w_law_ords (by decide) rfl]
  refine ⟨h, ?_⟩
  show wpSs _ c_law_ords ⟨[some (.str s)], _⟩ _ _
  unfold c_law_ords
  walk_at "vc"
  have e : (s.cps.toList.map fun n : Nat => AV.int (n : Int)) = (cods s).map .int := by unfold cods; rw [List.map_map]; rfl
  rw [e, closedL_ints]
  exact ⟨hl, rfl, h, k⟩
end

-- V15
section
variable {n : Nat} {c0 c1 : Cell} {Q : AV → List Cell → Prop} {X : Phi → List Cell → Prop}
theorem s_lword (h0 : PoolOk c0) (h1 : c1.ok = true) {f : Int} (k : ∀ c0' ws, PoolOk c0' → ws.length ≤ 3 → (∀ w ∈ ws, w ∈ [97, 90, 48, 95, 57, 113]) → Q (.lst ((f :: ws).map .int)) [c0', c1]) : PhiN rowOf (n + 2) 323 [.ref 0, .int f] [c0, c1] Q X := by
  rw [phi_iff' w_law_word (by decide) rfl]
  refine ⟨gc_ok h0 h1, ?_⟩
  show wpSs _ c_law_word ⟨[some (.ref 0), some (.int f), none, none], _⟩ _ _
  unfold c_law_word
  walk_at "vc"
  refine ⟨by decide, by decide, s_pick (b := 4) h0 h1 (by decide) (by decide) fun c0' x h0 hx hx2 => ?_⟩
  walk_at "vc"
  refine ⟨hx, by lia, ?_⟩
  refine forGo_inv (fun j σ => ∃ (c0 : Cell) (ws : List Int) (z : Option AV), PoolOk c0 ∧ ws.length ≤ j ∧ (∀ w ∈ ws, w ∈ [97, 90, 48, 95, 57, 113]) ∧ σ = ⟨[some (.ref 0), some (.int f), some (.ref 2), z], [c0, c1, .lst ((f :: ws).map .int)]⟩) _ 0 _ ⟨c0', [], none, h0, Nat.le_refl _, by simp, rfl⟩ ?_ ?_
  · rintro j σ K hj ⟨c0, ws, z, h0, hl, hw, rfl⟩ hK
    walk_at "vc"
    refine ⟨by decide, s_pick (b := 6) h0 h1 (by decide) (by decide) fun c0' y h0 hy hy2 => ?_⟩
    have hy3 : y.toNat < 6 := by lia
    refine ⟨hy, by lia, ?_⟩
    have hg : ∃ v : Int, [AV.int 97, AV.int 90, AV.int 48, AV.int 95, AV.int 57, AV.int 113][y.toNat]? = some (.int v) ∧ v ∈ [(97 : Int), 90, 48, 95, 57, 113] := by
      generalize y.toNat = z at hy3
      match z, hy3 with
      | 0, _ => exact ⟨97, rfl, by decide⟩
      | 1, _ => exact ⟨90, rfl, by decide⟩
      | 2, _ => exact ⟨48, rfl, by decide⟩
      | 3, _ => exact ⟨95, rfl, by decide⟩
      | 4, _ => exact ⟨57, rfl, by decide⟩
      | 5, _ => exact ⟨113, rfl, by decide⟩
    obtain ⟨v, hv, hvm⟩ := hg
    rw [hv]
    have hlen : x.toNat ≤ 3 := by lia
    rw [List.length_map, List.length_range] at hj
    repeat (first | walk_at "vc" | simp only [List.map_cons])
    refine ⟨by lia, hK _ ⟨c0', ws ++ [v], some (.int j), h0, by simp; lia, ?_, by simp⟩⟩
    intro w hw2
    rcases List.mem_append.mp hw2 with h | h
    · exact hw _ h
    · rw [List.mem_singleton] at h; rw [h]; exact hvm
  · rintro σ ⟨c0, ws, z, h0, hl, hw, rfl⟩
    rw [List.length_map, List.length_range] at hl
    repeat (first | walk_at "vc" | simp only [List.map_cons])
    have e : (AV.int f :: ws.map .int) = (f :: ws).map .int := rfl
    exact ⟨by decide, gc_ok h0 h1, k _ ws h0 (by lia) hw⟩
end

-- V16
noncomputable def fig (sh d : Int) : Int := if d < 10 then 48 + d else sh + d
section
variable {n : Nat} {c0 c1 : Cell} {Q : AV → List Cell → Prop} {X : Phi → List Cell → Prop}
theorem s_figures (h : gcOk [c0, c1] = true) {w b sh : Int} (hw : 0 ≤ w) (hw2 : w ≤ 10 ^ 25) (hb : 2 ≤ b) (hb2 : b ≤ 16)
    (k : ∀ ds : List Int, ds ≠ [] → ds.length ≤ 90 → (∀ d ∈ ds, 0 ≤ d ∧ d < b) → valOf b ds = w → Q (.lst ((ds.map (fig sh)).map .int)) [c0, c1]) : PhiN rowOf (n + 1) 288 [.int w, .int b, .int sh] [c0, c1] Q X := by
  refine phi_in (r := r_law_figures) w_law_figures (by decide) (h) rfl ?_
  show wpSs _ c_law_figures ⟨[some (.int w), some (.int b), some (.int sh), none, none], _⟩ _ _
  unfold c_law_figures
  walk_at "vm"
  refine ⟨by decide, by decide, ?_⟩
  refine c_whl (fun σ m => ∃ (w' : Int) (ds : List Int) (x : Option AV), 0 ≤ w' ∧ ds.reverse.foldl (fun v d => v * b + d) w' = w ∧ (∀ d ∈ ds, 0 ≤ d ∧ d < b) ∧ (ds = [] ∨ 1 ≤ w') ∧ w'.toNat * 2 ^ ds.length ≤ w.toNat ∧ m = w'.toNat ∧
    σ = ⟨[some (.int w'), some (.int b), some (.int sh), some (.ref 2), x], [c0, c1, .lst ((ds.map (fig sh)).map .int)]⟩) w.toNat ⟨w, [], none, hw, rfl, by simp, Or.inl rfl, by simp, rfl, rfl⟩ ?_
  rintro σ m ⟨w', ds, x, hw', hv, hd, hne, hp, rfl, rfl⟩
  repeat (first | walk_at "vm" | simp only [h])
  have q1 := Int.fmod_nonneg_of_pos w' (show (0 : Int) < b by lia)
  have q2 := Int.fmod_lt_of_pos w' (show (0 : Int) < b by lia)
  have q3 : b * w'.fdiv b + w'.fmod b = w' := Int.mul_fdiv_add_fmod w' b
  have q4 : 0 ≤ w'.fdiv b := Int.fdiv_nonneg hw' (by lia)
  have q5 : 2 * w'.fdiv b ≤ b * w'.fdiv b := Int.mul_le_mul_of_nonneg_right hb q4
  generalize w'.fdiv b = w2 at *
  generalize w'.fmod b = d at *
  have hlen : ds.length ≤ 84 := by
    rcases hne with rfl | hne
    · simp
    · rcases Nat.lt_or_ge 84 ds.length with hg | hg
      · have e1 : 2 ^ 84 ≤ 2 ^ ds.length := Nat.pow_le_pow_right (by decide) (by lia)
        have e2 : 1 * 2 ^ ds.length ≤ w'.toNat * 2 ^ ds.length := Nat.mul_le_mul_right _ (by lia)
        lia
      · exact hg
  have hv2 : (ds ++ [d]).reverse.foldl (fun v d => v * b + d) w2 = w := by
    rw [List.reverse_append, List.reverse_singleton, List.singleton_append, List.foldl_cons, Int.mul_comm w2 b, q3]
    exact hv
  have hd2 : ∀ x ∈ ds ++ [d], 0 ≤ x ∧ x < b := by
    intro x hx
    rcases List.mem_append.mp hx with hx | hx
    · exact hd x hx
    · rw [List.mem_singleton] at hx; rw [hx]; exact ⟨q1, q2⟩
  have hE : (ds.map (fig sh)).map AV.int ++ [.int (fig sh d)] = ((ds ++ [d]).map (fig sh)).map .int := by simp
  have hp2 : w2.toNat * 2 ^ (ds ++ [d]).length ≤ w.toNat := by
    rw [List.length_append, List.length_singleton, Nat.pow_succ, Nat.mul_comm (2 ^ ds.length) 2, ← Nat.mul_assoc]
    exact Nat.le_trans (Nat.mul_le_mul_right _ (by lia)) hp
  refine ⟨by lia, ?_⟩
  by_cases h10 : d < 10
  case' pos =>
    have he : 48 + d = fig sh d := by unfold fig; rw [if_pos h10]
    simp only [h10, if_true, he, hE]
  case' neg =>
    have he : sh + d = fig sh d := by unfold fig; rw [if_neg h10]
    simp only [h10, if_false, he, hE]
  all_goals
    refine ⟨by lia, by lia, by lia, ?_⟩
    by_cases hz : w2 = 0
    · refine ifT (decide_eq_true hz) ?_
      walk_at "vm"
      rw [hz] at hv2
      rw [← List.map_reverse, ← List.map_reverse]
      refine ⟨by simp only [List.length_map, List.length_append, List.length_singleton]; lia, by decide, closedL_ints _, h, k _ (by simp) (by simp; lia) (fun x hx => hd2 x (List.mem_reverse.mp hx)) hv2⟩
    · refine ifF (decide_eq_false hz) ?_
      walk_at "vm"
      exact ⟨w2.toNat, by lia, w2, ds ++ [d], _, q4, hv2, hd2, Or.inr (by lia), hp2, rfl, rfl⟩
end

-- V17
theorem norm_in {c : Int} (h0 : 0 ≤ c) (h1 : c ≤ 1114111) : norm c = c := by unfold norm; rw [if_neg (by lia)]
theorem fig_digit {sh d : Int} (hs : sh = 87 ∨ sh = 55) (h0 : 0 ≤ d) (h1 : d < 16) : digitV (norm (fig sh d)) = d := by
  have e1 : ∀ k : Fin 16, digitV (norm (fig 87 (k.val : Int))) = k.val := by decide
  have e2 : ∀ k : Fin 16, digitV (norm (fig 55 (k.val : Int))) = k.val := by decide
  have e3 : ((⟨d.toNat, by lia⟩ : Fin 16).val : Int) = d := by show ((d.toNat : Nat) : Int) = d; lia
  rcases hs with rfl | rfl
  · have := e1 ⟨d.toNat, by lia⟩; rw [e3] at this; exact this
  · have := e2 ⟨d.toNat, by lia⟩; rw [e3] at this; exact this
theorem digRun_fig {sh b : Int} (hs : sh = 87 ∨ sh = 55) (hb : b ≤ 16) {r : List Int} (hr : ¬ (0 ≤ digitV (hd r) ∧ digitV (hd r) < b)) : ∀ ds : List Int, (∀ d ∈ ds, 0 ≤ d ∧ d < b) → digRun b (ds.map (fig sh) ++ r) = ds
  | [], _ => by
    cases r with
    | nil => rfl
    | cons c l => show digRun b (c :: l) = []; rw [digRun]; exact if_neg hr
  | d :: ds, h => by
    have hd := h d (List.mem_cons_self ..)
    have e := fig_digit hs hd.1 (show d < 16 by lia)
    rw [List.map_cons, List.cons_append, digRun, e, if_pos hd, digRun_fig hs hb hr ds fun x hx => h x (List.mem_cons_of_mem _ hx)]
theorem foldl_ge {b : Int} (hb : 1 ≤ b) : ∀ (ds : List Int) (v : Int), 0 ≤ v → (∀ d ∈ ds, 0 ≤ d) → v ≤ ds.foldl (fun v d => v * b + d) v
  | [], v, _, _ => Int.le_refl _
  | d :: ds, v, hv, h => by
    rw [List.foldl_cons]
    have h1 := h d (List.mem_cons_self ..)
    have h2 : v * 1 ≤ v * b := Int.mul_le_mul_of_nonneg_left hb hv
    have := foldl_ge hb ds (v * b + d) (by lia) fun x hx => h x (List.mem_cons_of_mem _ hx)
    lia
theorem escVal_eq {b : Int} (hb : 1 ≤ b) : ∀ (ds : List Int) (v : Int), 0 ≤ v → (∀ d ∈ ds, 0 ≤ d) → ds.foldl (fun v d => v * b + d) v ≤ 1114111 → ds.foldl (fun v d => if v ≤ 1114111 then v * b + d else v) v = ds.foldl (fun v d => v * b + d) v
  | [], v, _, _, _ => rfl
  | d :: ds, v, hv, h, hl => by
    rw [List.foldl_cons] at hl ⊢
    rw [List.foldl_cons]
    have h1 := h d (List.mem_cons_self ..)
    have h2 : v * 1 ≤ v * b := Int.mul_le_mul_of_nonneg_left hb hv
    have h3 := foldl_ge hb ds (v * b + d) (by lia) fun x hx => h x (List.mem_cons_of_mem _ hx)
    rw [if_pos (by lia)]
    exact escVal_eq hb ds _ (by lia) (fun x hx => h x (List.mem_cons_of_mem _ hx)) hl

theorem escF_dig {l ds : List Int} {x : Nat} {b v : Int} (h0 : simpleEsc (hd l) < 0) (hx : (if hd l = 120 then 1 else 0 : Nat) = x) (hb : (if hd l = 120 then 16 else 8 : Int) = b) (hdr : digRun b (l.drop x) = ds) (hne : ds ≠ []) (hv : escVal b ds = v) (hv2 : v ≤ 1114111)
    (h92 : hd ((l.drop x).drop ds.length) = 92) : escF l = some (v, x + ds.length + 1) := by
  unfold escF
  rw [if_neg (by lia)]
  dsimp only
  rw [hx, hb, hdr, hv, if_neg]
  rintro (z | z | z)
  · exact hne z
  · lia
  · exact z h92
/-- p is the part of an escape behind the backslash, for the code v -/
noncomputable def EscR (p : List Int) (v : Int) : Prop := p ≠ [] ∧ p.length ≤ 100 ∧ hd p ≠ 10 ∧ 0 ≤ v ∧ v ≤ 1114111 ∧ ∀ r, escF (p ++ r) = some (v, p.length)
theorem stop92 (b : Int) (r : List Int) : ¬ (0 ≤ digitV (hd (92 :: r)) ∧ digitV (hd (92 :: r)) < b) := by
  have e : digitV (hd (92 :: r)) = -1 := (show digitV (norm 92) = -1 by decide)
  rw [e]; lia
theorem drop_fig (ds r : List Int) : (ds.map (fig 87) ++ 92 :: r).drop ds.length = 92 :: r := by
  have e : ds.length = (ds.map (fig 87)).length := by rw [List.length_map]
  rw [e, List.drop_left]
theorem escR_hex {ds : List Int} {v : Int} (h1 : ds ≠ []) (h2 : ds.length ≤ 90) (h3 : ∀ d ∈ ds, 0 ≤ d ∧ d < 16) (h4 : valOf 16 ds = v) (h5 : v ≤ 1114111) : EscR (120 :: (ds.map (fig 87) ++ [92])) v := by
  have hv0 : 0 ≤ v := by rw [← h4]; exact foldl_ge (by decide) ds 0 (by decide) fun d hd => (h3 d hd).1
  refine ⟨by simp, by simp; lia, (show norm 120 ≠ 10 by decide), hv0, h5, fun r => ?_⟩
  have e1 : escVal 16 ds = v := by rw [← h4]; exact escVal_eq (by decide) ds 0 (by decide) (fun d hd => (h3 d hd).1) (by show valOf 16 ds ≤ _; lia)
  have e3 : 120 :: (ds.map (fig 87) ++ [92]) ++ r = 120 :: (ds.map (fig 87) ++ 92 :: r) := by simp
  have e4 : (120 :: (ds.map (fig 87) ++ [92])).length = 1 + ds.length + 1 := by simp; lia
  rw [e3, e4]
  refine escF_dig (show simpleEsc (norm 120) < 0 by decide +kernel) rfl rfl (digRun_fig (Or.inl rfl) (by decide) (stop92 16 r) ds h3) h1 e1 h5 ?_
  show hd ((ds.map (fig 87) ++ 92 :: r).drop ds.length) = 92
  rw [drop_fig]; rfl
theorem escR_oct {ds : List Int} {v : Int} (h1 : ds ≠ []) (h2 : ds.length ≤ 90) (h3 : ∀ d ∈ ds, 0 ≤ d ∧ d < 8) (h4 : valOf 8 ds = v) (h5 : v ≤ 1114111) : EscR (ds.map (fig 87) ++ [92]) v := by
  have hv0 : 0 ≤ v := by rw [← h4]; exact foldl_ge (by decide) ds 0 (by decide) fun d hd => (h3 d hd).1
  have e1 : escVal 8 ds = v := by rw [← h4]; exact escVal_eq (by decide) ds 0 (by decide) (fun d hd => (h3 d hd).1) (by show valOf 8 ds ≤ _; lia)
  obtain ⟨d, ds', rfl⟩ := List.exists_cons_of_ne_nil h1
  have hd0 := h3 d (List.mem_cons_self ..)
  have hh : ∀ r, hd ((d :: ds').map (fig 87) ++ r) = norm (48 + d) := fun r => by
    show norm (fig 87 d) = _
    unfold fig; rw [if_pos (by lia)]
  have hn : norm (48 + d) = 48 + d := norm_in (by lia) (by lia)
  have hs : simpleEsc (48 + d) < 0 := by
    have e1 : ∀ k : Fin 8, simpleEsc (48 + (k.val : Int)) < 0 := by decide +kernel
    have e3 : ((⟨d.toNat, by lia⟩ : Fin 8).val : Int) = d := by show ((d.toNat : Nat) : Int) = d; lia
    have := e1 ⟨d.toNat, by lia⟩
    rw [e3] at this; exact this
  refine ⟨by simp, by simp at h2 ⊢; lia, by rw [hh, hn]; lia, hv0, h5, fun r => ?_⟩
  have e4 : ((d :: ds').map (fig 87) ++ [92]).length = 0 + (d :: ds').length + 1 := by simp
  rw [List.append_assoc, e4]
  refine escF_dig (by rw [hh, hn]; exact hs) (by rw [hh, hn, if_neg (by lia)]) (by rw [hh, hn, if_neg (by lia)]) (digRun_fig (Or.inl rfl) (by decide) (stop92 8 r) (d :: ds') h3) h1 e1 h5 ?_
  show hd (((d :: ds').map (fig 87) ++ 92 :: r).drop (d :: ds').length) = 92
  rw [drop_fig]; rfl
theorem escR_one {c v : Int} (h0 : 0 ≤ c) (h1 : c ≤ 1114111) (h2 : c ≠ 10) (h3 : simpleEsc c = v) (h4 : 0 ≤ v) (h5 : v ≤ 1114111) : EscR [c] v := by
  refine ⟨by simp, by simp, by show norm c ≠ 10; rw [norm_in h0 h1]; exact h2, h4, h5, fun r => ?_⟩
  have e : hd ([c] ++ r) = c := norm_in h0 h1
  unfold escF
  rw [e, h3, if_pos h4]; rfl

-- V18
section
variable {n : Nat} {c0 c1 : Cell} {Q : AV → List Cell → Prop} {X : Phi → List Cell → Prop}
noncomputable def escTab : List (Int × Int) := [(97, 7), (98, 8), (102, 12), (110, 10), (114, 13), (116, 9), (118, 11), (92, 92), (39, 39), (34, 34), (96, 96)]
theorem s_lescape (h0 : PoolOk c0) (h1 : c1.ok = true) {way : Int} (k : ∀ c0' p v, PoolOk c0' → EscR p v → Q (.tup [.lst ((92 :: p).map .int), .int v]) [c0', c1]) : PhiN rowOf (n + 3) 309 [.ref 0, .int way] [c0, c1] Q X := by
  rw [phi_iff' w_law_escape (by decide) rfl]
  refine ⟨gc_ok h0 h1, ?_⟩
  show wpSs _ c_law_escape ⟨[some (.ref 0), some (.int way), none, none, none], _⟩ _ _
  unfold c_law_escape
  walk_at "vc"
  by_cases hw : way = 0
  · simp only [hw, if_true]
    refine s_pick (b := 11) h0 h1 (by decide) (by decide) fun c0' y h0 hy hy2 => ?_
    walk_at "vc"
    have hg : ∃ c v : Int, [AV.int 97, AV.int 98, AV.int 102, AV.int 110, AV.int 114, AV.int 116, AV.int 118, AV.int 92, AV.int 39, AV.int 34, AV.int 96][y.toNat]? = some (.int c) ∧
        [AV.int 7, AV.int 8, AV.int 12, AV.int 10, AV.int 13, AV.int 9, AV.int 11, AV.int 92, AV.int 39, AV.int 34, AV.int 96][y.toNat]? = some (.int v) ∧ EscR [c] v := by
      have e : ∀ k : Fin 11, (0 ≤ (escTab[k.val]).1 ∧ (escTab[k.val]).1 ≤ 1114111 ∧ (escTab[k.val]).1 ≠ 10 ∧ simpleEsc (escTab[k.val]).1 = (escTab[k.val]).2 ∧ 0 ≤ (escTab[k.val]).2 ∧ (escTab[k.val]).2 ≤ 1114111) := by decide +kernel
      have hy3 : y.toNat < 11 := by lia
      have := e ⟨y.toNat, hy3⟩
      have hz : y.toNat < escTab.length := hy3
      refine ⟨(escTab[y.toNat]).1, (escTab[y.toNat]).2, ?_, ?_, escR_one this.1 this.2.1 this.2.2.1 this.2.2.2.1 this.2.2.2.2.1 this.2.2.2.2.2⟩
      · show (escTab.map fun p => AV.int p.1)[y.toNat]? = _
        rw [List.getElem?_map, List.getElem?_eq_getElem hz]; rfl
      · show (escTab.map fun p => AV.int p.2)[y.toNat]? = _
        rw [List.getElem?_map, List.getElem?_eq_getElem hz]; rfl
    obtain ⟨c, v, e1, e2, e3⟩ := hg
    rw [e1, e2]
    exact ⟨by decide, hy, by lia, by show _ ∧ _; exact ⟨by decide, by decide, hy, by lia, by show _ ∧ _; exact ⟨by decide, rfl, gc_ok h0 h1, k _ [c] v h0 e3⟩⟩⟩
  · simp only [hw, if_false]
    refine s_code h0 h1 fun c0' y h0 hy hy2 => ?_
    walk_at "vc"
    by_cases hw1 : way = 1
    · simp only [hw1, if_true]
      refine ⟨by decide, s_figures (gc_ok h0 h1) hy (by lia) (by decide) (by decide) fun ds d1 d2 d3 d4 => ?_⟩
      repeat (first | walk_at "vc" | simp only [o_addL])
      have e := escR_hex d1 d2 d3 d4 hy2
      have e2 : (ds.map (fig 87)).map AV.int ++ [AV.int 92] = (ds.map (fig 87) ++ [92]).map AV.int := by simp
      rw [sizeLine_val, e2, closedL_ints]
      exact ⟨by lia, by decide, by lia, by decide, rfl, gc_ok h0 h1, k _ _ _ h0 e⟩
    · simp only [hw1, if_false]
      refine ⟨by decide, s_figures (gc_ok h0 h1) hy (by lia) (by decide) (by decide) fun ds d1 d2 d3 d4 => ?_⟩
      repeat (first | walk_at "vc" | simp only [o_addL])
      have e := escR_oct d1 d2 d3 d4 hy2
      have e2 : (ds.map (fig 87)).map AV.int ++ [AV.int 92] = (ds.map (fig 87) ++ [92]).map AV.int := by simp
      rw [sizeLine_val, e2, closedL_ints]
      exact ⟨by lia, by decide, by lia, by decide, rfl, gc_ok h0 h1, k _ _ _ h0 e⟩
end

-- V19
/-- bs spells the codes vs inside the quotes q -/
noncomputable def QuB (q : Int) (bs vs : List Int) : Prop := ∀ (rest ws : List Int) (k : Nat), QuR q rest ws .ok k → QuR q (bs ++ rest) (vs ++ ws) .ok (bs.length + k)
theorem quB_nil (q : Int) : QuB q [] [] := fun rest ws k h => by
  rw [List.nil_append, List.nil_append, List.length_nil, Nat.zero_add]; exact h
theorem quB_app {q : Int} {b1 b2 v1 v2 : List Int} (h1 : QuB q b1 v1) (h2 : QuB q b2 v2) : QuB q (b1 ++ b2) (v1 ++ v2) := fun rest ws k h => by
  rw [List.append_assoc, List.append_assoc, List.length_append, Nat.add_assoc]
  exact h1 _ _ _ (h2 _ _ _ h)
theorem quB_twin {q : Int} (hq : q = 39 ∨ q = 34 ∨ q = 96) : QuB q [q, q] [q] := fun rest ws k h => by
  have e : norm q = q := norm_in (by lia) (by lia)
  exact QuR.twin (l := q :: q :: rest) (e := .ok) e e h
theorem quB_cont {q : Int} : QuB q [92, 10] [] := fun rest ws k h =>
  QuR.cont (l := 92 :: 10 :: rest) (e := .ok) (show norm 92 = 92 by decide) (show norm 10 = 10 by decide) h
theorem quB_esc {q : Int} {p : List Int} {v : Int} (he : EscR p v) : QuB q (92 :: p) [v] := fun rest ws k h => by
  obtain ⟨h1, h2, h3, h4, h5, h6⟩ := he
  have e1 : List.drop 1 (92 :: p ++ rest) = p ++ rest := rfl
  have e2 : List.drop (1 + p.length) (92 :: p ++ rest) = rest := by
    rw [Nat.add_comm, List.cons_append, List.drop_succ_cons, List.drop_left]
  have e3 : hd (p ++ rest) = hd p := by
    obtain ⟨c, p', rfl⟩ := List.exists_cons_of_ne_nil h1; rfl
  have := QuR.esc (q := q) (l := 92 :: p ++ rest) (e := .ok) (vs := ws) (k := k) (show norm 92 = 92 by decide) (by rw [e1, e3]; exact h3) (by rw [e1]; exact h6 rest) (by rw [e2]; exact h)
  rw [List.length_cons, Nat.add_comm p.length 1]
  exact this
theorem quB_plain {q c : Int} (h0 : 32 ≤ c) (h1 : c ≠ 127) (h2 : c ∉ [q, 92]) (h3 : c ≤ 1114111) : QuB q [c] [c] := fun rest ws k h => by
  have e : norm c = c := norm_in (by lia) h3
  have e1 : hd (c :: rest) = c := e
  have e2 : c ≠ q ∧ c ≠ 92 := by simpa using h2
  have := QuR.plain (q := q) (l := c :: rest) (e := .ok) (vs := ws) (k := k) (by rw [e1]; exact e2.1) (by rw [e1]; lia) (by rw [e1]; lia) (by rw [e1]; exact e2.2) (by rw [e1]; unfold isQuotableB; simp; lia) h
  rw [e1] at this
  exact this
theorem quB_close {q : Int} (hq : q = 39 ∨ q = 34 ∨ q = 96) {bs vs r : List Int} (h : QuB q bs vs) (hr : hd r ≠ q) : QuR q (bs ++ [q] ++ r) vs .ok (bs.length + 1) := by
  have e : norm q = q := norm_in (by lia) (by lia)
  have := h (q :: r) [] 1 (QuR.stop (l := q :: r) e hr)
  rw [List.append_nil] at this
  rw [List.append_assoc]
  exact this

-- V20
section
variable {n : Nat} {c0 c1 : Cell} {Q : AV → List Cell → Prop} {X : Phi → List Cell → Prop}
theorem s_lquoted (h0 : PoolOk c0) (h1 : c1.ok = true) {q : Int} (hq : q = 39 ∨ q = 34 ∨ q = 96) (k : ∀ c0' bs vs, PoolOk c0' → bs.length ≤ 500 → (∀ v ∈ vs, 0 ≤ v ∧ v ≤ 1114111) → QuB q bs vs → Q (.tup [.lst ((q :: (bs ++ [q])).map .int), .lst (vs.map .int)]) [c0', c1]) : PhiN rowOf (n + 4) 316 [.ref 0, .int q] [c0, c1] Q X := by
  refine phi_in (r := r_law_quoted) w_law_quoted (by decide) (gc_ok h0 h1) rfl ?_
  show wpSs _ c_law_quoted ⟨[some (.ref 0), some (.int q), none, none, none, none, none, none], _⟩ _ _
  unfold c_law_quoted
  walk_at "vm"
  refine ⟨by decide, by decide, by decide, by simp, ?_⟩
  refine s_pick (b := 5) h0 h1 (by decide) (by decide) fun c0' x h0 hx hx2 => ?_
  walk_at "vm"
  refine ⟨hx, by lia, ?_⟩
  refine forGo_inv (fun j σ => ∃ (c0 : Cell) (bs vs : List Int) (y z u v : Option AV), PoolOk c0 ∧ bs.length ≤ 101 * j ∧ vs.length ≤ j ∧ (∀ v ∈ vs, 0 ≤ v ∧ v ≤ 1114111) ∧ QuB q bs vs ∧ σ = ⟨[some (.ref 0), some (.int q), some (.ref 2), some (.ref 3), y, z, u, v], [c0, c1, .lst ((q :: bs).map .int), .lst (vs.map .int)]⟩) _ 0 _ ⟨c0', [], [], none, none, none, none, h0, Nat.le_refl _, Nat.le_refl _, by simp, quB_nil q, rfl⟩ ?_ ?_
  · rintro j σ K hj ⟨c0, bs, vs, y, z, u, v, h0, hb, hv, hr, hB, rfl⟩ hK
    walk_at "vm"
    refine s_pick (b := 6) h0 h1 (by decide) (by decide) fun c0' y h0 hy hy2 => ?_
    walk_at "vm"
    rw [List.length_map, List.length_range] at hj
    have hx3 : x.toNat ≤ 4 := by lia
    have nx : ∀ (c0' : Cell) (bs' vs' : List Int) (y z u v : Option AV) (L1 L2 : List AV), PoolOk c0' → bs'.length ≤ bs.length + 101 → vs'.length ≤ vs.length + 1 → (∀ v ∈ vs', v ∈ vs ∨ (0 ≤ v ∧ v ≤ 1114111)) → QuB q bs' vs' → L1 = (q :: bs').map .int → L2 = vs'.map .int →
        K ⟨[some (.ref 0), some (.int q), some (.ref 2), some (.ref 3), y, z, u, v], [c0', c1, .lst L1, .lst L2]⟩ := by
      intro c0' bs' vs' y z u v L1 L2 a1 a2 a3 a4 a5 a6 a7
      subst a6 a7
      exact hK _ ⟨c0', bs', vs', y, z, u, v, a1, by lia, by lia, fun w hw => (a4 w hw).elim (hr w) id, a5, rfl⟩
    have mem1 : ∀ {t : Int}, 0 ≤ t → t ≤ 1114111 → ∀ w ∈ vs ++ [t], w ∈ vs ∨ (0 ≤ w ∧ w ≤ 1114111) := fun h1 h2 w hw => by
      rcases List.mem_append.mp hw with h | h
      · exact Or.inl h
      · rw [List.mem_singleton] at h; rw [h]; exact Or.inr ⟨h1, h2⟩
    by_cases hy0 : y = 0
    · refine ifT (decide_eq_true hy0) ?_
      walk_at "vm"
      exact ⟨by decide, by lia, by lia, nx c0' (bs ++ [q, q]) (vs ++ [q]) _ _ _ _ _ _ h0 (by simp) (by simp) (mem1 (by lia) (by lia)) (quB_app hB (quB_twin hq)) (by simp) (by simp)⟩
    · refine ifF (decide_eq_false hy0) ?_
      walk_at "vm"
      by_cases hy4 : y < 4
      · refine ifT (decide_eq_true hy4) ?_
        walk_at "vm"
        refine s_lescape h0 h1 fun c0' p w h0 he => ?_
        refine ⟨rfl, ?_⟩
        show wpSs _ _ ⟨[some (.ref 0), some (.int q), some (.ref 2), some (.ref 3), _, some (.int y), some (.lst ((92 :: p).map .int)), some (.int w)], [c0', c1, .lst ((q :: bs).map .int), .lst (vs.map .int)]⟩ _ _
        have hpl := he.2.1
        walk_at "vm"
        refine ⟨by lia, by lia, nx c0' (bs ++ 92 :: p) (vs ++ [w]) _ _ _ _ _ _ h0 (by simp; lia) (by simp) (mem1 he.2.2.2.1 he.2.2.2.2.1) (quB_app hB (quB_esc he)) (by simp) (by simp)⟩
      · refine ifF (decide_eq_false hy4) ?_
        walk_at "vm"
        by_cases hy5 : y = 4
        · refine ifT (decide_eq_true hy5) ?_
          walk_at "vm"
          exact ⟨by decide, by lia, nx c0' (bs ++ [92, 10]) vs _ _ _ _ _ _ h0 (by simp) (by lia) (fun w hw => Or.inl hw) (by have := quB_app hB (quB_cont (q := q)); rw [List.append_nil] at this; exact this) (by simp) rfl⟩
        · refine ifF (decide_eq_false hy5) ?_
          walk_at "vm"
          refine ⟨by decide, s_plain (ns := [q, 92]) h0 h1 (by intro x hx; simp at hx; lia) fun c0' t h0 t1 t2 t3 t4 => ?_⟩
          walk_at "vm"
          exact ⟨by lia, by lia, nx c0' (bs ++ [t]) (vs ++ [t]) _ _ _ _ _ _ h0 (by simp) (by simp) (mem1 (by lia) t4) (quB_app hB (quB_plain t1 t2 t3 t4)) (by simp) (by simp)⟩
  · rintro σ ⟨c0, bs, vs, y, z, u, v, h0, hb, hv, hr, hB, rfl⟩
    rw [List.length_map, List.length_range] at hb hv
    have e2 : (q :: bs).map AV.int ++ [.int q] = (q :: (bs ++ [q])).map AV.int := by simp
    repeat (first | walk_at "vm" | simp only [o_addRL, addRL_some, e2])
    exact ⟨by decide, by rw [sizeLine_val]; lia, by decide, by decide, gc_ok h0 h1, k _ _ _ h0 (by lia) hr hB⟩
end

-- V21
inductive Bk | none | word | int | sign | fin | q39 | q34 | q96 | solo
inductive Fr | word | sign | q39 | q34 | q96 | solo
noncomputable def Bk.s : Bk → Str
  | .none => "none" | .word => "word" | .int => "int" | .sign => "sign" | .fin => "end" | .q39 => "39" | .q34 => "34" | .q96 => "96" | .solo => "solo"
noncomputable def Fr.s : Fr → Str
  | .word => "word" | .sign => "sign" | .q39 => "39" | .q34 => "34" | .q96 => "96" | .solo => "solo"
/-- what must lie behind an item for it to end there -/
noncomputable def Fol : Bk → List Int → Prop
  | .none, _ => True
  | .solo, _ => True
  | .word, r => isAlnumB (hd r) = false
  | .int, r => isAlnumB (hd r) = false ∧ hd r ≠ 39 ∧ ¬ (hd r = 46 ∧ isDigitB (hd (r.drop 1)) = true)
  | .sign, r => isSymbolB (hd r) = false
  | .fin, r => hd r = -1 ∨ hd r = 37 ∨ isLayoutB (hd r) = true
  | .q39, r => hd r ≠ 39
  | .q34, r => hd r ≠ 34
  | .q96, r => hd r ≠ 96
/-- how an item begins -/
noncomputable def Fro : Fr → List Int → Prop
  | .word, l => isAlnumB (hd l) = true
  | .sign, l => isSymbolB (hd l) = true ∧ ¬ (hd l = 46 ∧ isDigitB (hd (l.drop 1)) = true)
  | .q39, l => hd l = 39
  | .q34, l => hd l = 34
  | .q96, l => hd l = 96
  | .solo, l => hd l ∈ [(33 : Int), 59, 41, 91, 93, 123, 125, 44, 124, 40]
noncomputable def mustB (b : Bk) (f : Fr) : Bool :=
  decide (b.s = "end") || ((decide (b.s = "word") || decide (b.s = "int")) && decide (f.s = "word")) || (decide (b.s = "int") && decide (f.s = "39")) || (decide (b.s = f.s) && (decide (b.s = "sign") || decide (b.s = "39") || decide (b.s = "34") || decide (b.s = "96")))

theorem sym_range {c : Int} (h : isSymbolB c = true) : 0 ≤ c ∧ c < 128 := by
  unfold isSymbolB at h
  simp only [Bool.and_eq_true, decide_eq_true_eq] at h
  exact ⟨h.1, h.2.1⟩
theorem sym_all : ∀ k : Fin 128, isSymbolB (k.val : Int) = true → (isAlnumB (k.val : Int) = false ∧ isDigitB (k.val : Int) = false ∧ (k.val : Int) ≠ 39 ∧ (k.val : Int) ≠ 34 ∧ (k.val : Int) ≠ 96 ∧ (k.val : Int) ≠ 37 ∧ isLayoutB (k.val : Int) = false ∧ cls (k.val : Int) = 7) := by decide +kernel
theorem sym_facts {c : Int} (h : isSymbolB c = true) : isAlnumB c = false ∧ isDigitB c = false ∧ c ≠ 39 ∧ c ≠ 34 ∧ c ≠ 96 ∧ c ≠ 37 ∧ isLayoutB c = false ∧ cls c = 7 := by
  have hr := sym_range h
  have e : ((⟨c.toNat, by lia⟩ : Fin 128).val : Int) = c := by show ((c.toNat : Nat) : Int) = c; lia
  have := sym_all ⟨c.toNat, by lia⟩
  rw [e] at this
  exact this h
theorem alnum_facts {c : Int} (h : isAlnumB c = true) : c ≠ 39 ∧ c ≠ 34 ∧ c ≠ 96 ∧ c ≠ 37 ∧ c ≠ 47 ∧ c ≠ 46 ∧ isLayoutB c = false ∧ isSymbolB c = false ∧ 48 ≤ c ∧ c ≤ 122 := by
  have hs : isSymbolB c = false := by
    cases hq : isSymbolB c with
    | false => rfl
    | true => rw [(sym_facts hq).1] at h; cases h
  unfold isAlnumB isSmallB isCapitalB isDigitB at h
  simp only [Bool.and_eq_true, Bool.or_eq_true, decide_eq_true_eq] at h
  refine ⟨by lia, by lia, by lia, by lia, by lia, by lia, ?_, hs, by lia, by lia⟩
  unfold isLayoutB
  simp
  lia
theorem alnum_no {c : Int} (h : isAlnumB c = false) : isSmallB c = false ∧ isCapitalB c = false ∧ isDigitB c = false ∧ c ≠ 95 := by
  unfold isAlnumB at h
  simp only [Bool.or_eq_false_iff, decide_eq_false_iff_not] at h
  exact ⟨h.1, h.2.1, h.2.2.1, h.2.2.2⟩
theorem alnum_no_dig {c : Int} (h : isAlnumB c = false) : digitV c = -1 := by
  obtain ⟨h1, h2, h3, _⟩ := alnum_no h
  unfold digitV; rw [h1, h2, h3]; rfl
theorem digit_alnum {c : Int} (h : isDigitB c = true) : isAlnumB c = true := by unfold isAlnumB; rw [h]; simp
theorem solo_facts {c : Int} (h : c ∈ [(33 : Int), 59, 41, 91, 93, 123, 125, 44, 124, 40]) : isAlnumB c = false ∧ isSymbolB c = false ∧ c ≠ 39 ∧ c ≠ 34 ∧ c ≠ 96 ∧ c ≠ 37 ∧ c ≠ 46 ∧ c ≠ 47 ∧ isLayoutB c = false := by
  have : ∀ c ∈ [(33 : Int), 59, 41, 91, 93, 123, 125, 44, 124, 40], isAlnumB c = false ∧ isSymbolB c = false ∧ c ≠ 39 ∧ c ≠ 34 ∧ c ≠ 96 ∧ c ≠ 37 ∧ c ≠ 46 ∧ c ≠ 47 ∧ isLayoutB c = false := by decide +kernel
  exact this c h
theorem qt_facts {c : Int} (h : c = 39 ∨ c = 34 ∨ c = 96) : isAlnumB c = false ∧ isSymbolB c = false ∧ c ≠ 37 ∧ c ≠ 46 ∧ c ≠ 47 ∧ isLayoutB c = false := by
  rcases h with rfl | rfl | rfl <;> decide +kernel
theorem fol_fro {b : Bk} {f : Fr} {l : List Int} (h : Fro f l) (hm : mustB b f = false) : Fol b l := by
  cases b <;> cases f <;> first | exact trivial | exact absurd hm (by decide +kernel) | (simp only [Fro] at h; simp only [Fol]) <;> first
    | (have := alnum_facts h; simp_all; done)
    | (have := sym_facts h.1; simp_all; done)
    | (have := solo_facts h; simp_all; done)
    | (have := qt_facts (c := hd l) (by simp_all); simp_all; done)
theorem fro_skip {f : Fr} {l : List Int} (h : Fro f l) (hs : ¬ (hd l = 47 ∧ hd (l.drop 1) = 42)) : SkipL l 0 := by
  have : isLayoutB (hd l) = false ∧ hd l ≠ 37 := by
    cases f <;> simp only [Fro] at h
    · have := alnum_facts h; simp_all
    · have := sym_facts h.1; simp_all
    · have := qt_facts (c := hd l) (by simp_all); simp_all
    · have := qt_facts (c := hd l) (by simp_all); simp_all
    · have := qt_facts (c := hd l) (by simp_all); simp_all
    · have := solo_facts h; simp_all
  exact .stop this.1 this.2 hs

/-! layout -/
/-- g is nothing but layout and remarks, whatever lies behind -/
structure Lay (g : List Int) : Prop where
  ok : ∀ r k, SkipL r k → SkipL (g ++ r) (g.length + k)
  bad : ∀ r k, SkipLF r k → SkipLF (g ++ r) (g.length + k)
theorem Lay.nil : Lay [] := ⟨fun r k h => by simpa using h, fun r k h => by simpa using h⟩
theorem Lay.app {a b : List Int} (x : Lay a) (y : Lay b) : Lay (a ++ b) :=
  ⟨fun r k h => by rw [List.append_assoc, List.length_append, Nat.add_assoc]; exact x.ok _ _ (y.ok _ _ h),
   fun r k h => by rw [List.append_assoc, List.length_append, Nat.add_assoc]; exact x.bad _ _ (y.bad _ _ h)⟩
theorem Lay.one {c : Int} (h : isLayoutB (norm c) = true) : Lay [c] :=
  ⟨fun r k hk => SkipL.lay (l := c :: r) h hk, fun r k hk => SkipLF.lay (l := c :: r) h hk⟩
theorem skipRow_body : ∀ (b r : List Int), (∀ c ∈ b, norm c ≠ 10) → skipRowN (b ++ 10 :: r) = b.length
  | [], r, _ => by show (if norm 10 = 10 then 0 else _) = 0; rw [if_pos (by decide)]
  | c :: b, r, h => by
    show (if norm c = 10 then 0 else 1 + skipRowN (b ++ 10 :: r)) = _
    rw [if_neg (h c (List.mem_cons_self ..)), skipRow_body b r fun x hx => h x (List.mem_cons_of_mem _ hx), List.length_cons, Nat.add_comm]
theorem Lay.row {b : List Int} (h : ∀ c ∈ b, norm c ≠ 10) : Lay (37 :: (b ++ [10])) := by
  have e0 : ∀ r : List Int, 37 :: (b ++ [10]) ++ r = 37 :: b ++ 10 :: r := fun r => by simp
  have e1 : ∀ r : List Int, skipRowN (37 :: b ++ 10 :: r) = (37 :: b).length := fun r => skipRow_body (37 :: b) r fun c hc => by
    rcases List.mem_cons.mp hc with rfl | hc
    · decide
    · exact h c hc
  have e2 : ∀ r : List Int, (37 :: b ++ 10 :: r).drop (37 :: b).length = 10 :: r := fun r => List.drop_left
  have e3 : ∀ k, (37 :: (b ++ [10])).length + k = (37 :: b).length + (1 + k) := fun k => by simp; lia
  refine ⟨fun r k hk => ?_, fun r k hk => ?_⟩
  · have h2 : SkipL (10 :: r) (1 + k) := SkipL.lay (l := 10 :: r) (show isLayoutB (norm 10) = true by decide) hk
    have := SkipL.row (l := 37 :: b ++ 10 :: r) (k := 1 + k) (show norm 37 = 37 by decide) (by rw [e1, e2]; exact h2)
    rw [e1] at this; rw [e0, e3]; exact this
  · have h2 : SkipLF (10 :: r) (1 + k) := SkipLF.lay (l := 10 :: r) (show isLayoutB (norm 10) = true by decide) hk
    have := SkipLF.row (l := 37 :: b ++ 10 :: r) (k := 1 + k) (show norm 37 = 37 by decide) (by rw [e1, e2]; exact h2)
    rw [e1] at this; rw [e0, e3]; exact this
theorem Lay.rem {b : List Int} (h : ∀ r, skipRemN (b ++ 42 :: 47 :: r) = some (b.length + 2)) : Lay (47 :: 42 :: (b ++ [42, 47])) := by
  have e0 : ∀ r : List Int, 47 :: 42 :: (b ++ [42, 47]) ++ r = 47 :: 42 :: (b ++ 42 :: 47 :: r) := fun r => by simp
  have e2 : ∀ r : List Int, (47 :: 42 :: (b ++ 42 :: 47 :: r)).drop (2 + (b.length + 2)) = r := fun r => by
    have : 47 :: 42 :: (b ++ 42 :: 47 :: r) = (47 :: 42 :: (b ++ [42, 47])) ++ r := by simp
    rw [this, show 2 + (b.length + 2) = (47 :: 42 :: (b ++ [42, 47])).length by simp; lia]
    exact List.drop_left
  have e3 : ∀ k, (47 :: 42 :: (b ++ [42, 47])).length + k = 2 + (b.length + 2) + k := fun k => by simp; lia
  refine ⟨fun r k hk => ?_, fun r k hk => ?_⟩
  · rw [e0, e3]
    exact SkipL.rem (l := 47 :: 42 :: (b ++ 42 :: 47 :: r)) (show norm 47 = 47 by decide) (show norm 42 = 42 by decide) (h r) (by rw [e2]; exact hk)
  · rw [e0, e3]
    exact SkipLF.rem (l := 47 :: 42 :: (b ++ 42 :: 47 :: r)) (show norm 47 = 47 by decide) (show norm 42 = 42 by decide) (h r) (by rw [e2]; exact hk)
noncomputable def bodies : List (List Int) := [[], [42], [39, 97], [47], [34, 40, 233], [42, 32, 47], [5, 92, 46]]
theorem bodies_row : ∀ b ∈ bodies, (∀ c ∈ b, norm c ≠ 10) ∧ b.length ≤ 3 := by decide
theorem bodies_rem {b : List Int} (hb : b ∈ bodies) (r : List Int) : skipRemN (b ++ 42 :: 47 :: r) = some (b.length + 2) := by
  have n42 : norm 42 = 42 := by decide
  have n47 : norm 47 = 47 := by decide
  have e0 : skipRemN (42 :: 47 :: r) = some 2 := by
    rw [skipRemN, if_pos ⟨n42, n47⟩]
  have st : ∀ (c : Int) (l : List Int) (k : Nat), ¬ (norm c = 42 ∧ hd l = 47) → skipRemN l = some k → skipRemN (c :: l) = some (k + 1) := fun c l k h1 h2 => by
    rw [skipRemN, if_neg h1, h2]; rfl
  unfold bodies at hb
  simp only [List.mem_cons, List.not_mem_nil, or_false] at hb
  rcases hb with rfl | rfl | rfl | rfl | rfl | rfl | rfl
  · exact e0
  · exact st _ _ 2 (by rintro ⟨_, h⟩; exact absurd h (show norm 42 ≠ 47 by decide)) e0
  · exact st _ _ 3 (by rintro ⟨h, _⟩; exact absurd h (by decide)) (st _ _ 2 (by rintro ⟨h, _⟩; exact absurd h (by decide)) e0)
  · exact st _ _ 2 (by rintro ⟨h, _⟩; exact absurd h (by decide)) e0
  · exact st _ _ 4 (by rintro ⟨h, _⟩; exact absurd h (by decide)) (st _ _ 3 (by rintro ⟨h, _⟩; exact absurd h (by decide)) (st _ _ 2 (by rintro ⟨h, _⟩; exact absurd h (by decide)) e0))
  · exact st _ _ 4 (by rintro ⟨_, h⟩; exact absurd h (show norm 32 ≠ 47 by decide)) (st _ _ 3 (by rintro ⟨h, _⟩; exact absurd h (by decide)) (st _ _ 2 (by rintro ⟨h, _⟩; exact absurd h (by decide)) e0))
  · exact st _ _ 4 (by rintro ⟨h, _⟩; exact absurd h (by decide)) (st _ _ 3 (by rintro ⟨h, _⟩; exact absurd h (by decide)) (st _ _ 2 (by rintro ⟨h, _⟩; exact absurd h (by decide)) e0))
/-- codes that end any item but an unfinished remark's sign -/
theorem fol_lay {b : Bk} {l : List Int} (h : isLayoutB (hd l) = true ∨ hd l = 37) : Fol b l := by
  have e : hd l = 32 ∨ hd l = 37 ∨ (9 ≤ hd l ∧ hd l ≤ 13) := by
    rcases h with h | h
    · unfold isLayoutB at h; simp at h; lia
    · exact Or.inr (Or.inl h)
  have hs : isSymbolB (hd l) = false := by
    cases hq : isSymbolB (hd l) with
    | false => rfl
    | true =>
      have := sym_facts hq
      rcases h with h | h
      · rw [this.2.2.2.2.2.2.1] at h; cases h
      · exact absurd h this.2.2.2.2.2.1
  have ha : isAlnumB (hd l) = false := by
    cases hq : isAlnumB (hd l) with
    | false => rfl
    | true => have := alnum_facts hq; lia
  cases b <;> simp only [Fol] <;> first
    | exact ha
    | exact hs
    | exact h.elim (fun h => Or.inr (Or.inr h)) (fun h => Or.inr (Or.inl h))
    | lia
    | exact ⟨ha, by lia, by lia⟩
theorem fol_rem {b : Bk} {l : List Int} (h : hd l = 47) (h1 : b ≠ .sign) (h2 : b ≠ .fin) : Fol b l := by
  cases b <;> simp only [Fol, h] <;> first
    | exact ⟨by decide, by decide, fun q => absurd q.1 (by decide)⟩
    | decide
    | decide +kernel
    | exact absurd rfl h1
    | exact absurd rfl h2

-- V22
structure NumS (row : List Int) (v : Int) : Prop where
  len : 1 ≤ row.length ∧ row.length ≤ 200
  dig : ∀ r, isDigitB (hd (row ++ r)) = true
  num : ∀ r, Fol .int r → NumR (row ++ r) v row.length
theorem no_run {b : Int} {r : List Int} (h : isAlnumB (hd r) = false) : ¬ (0 ≤ digitV (hd r) ∧ digitV (hd r) < b) := by
  rw [alnum_no_dig h]; lia
theorem numBase_no {c : Int} (h : isSmallB c = false) : numBase c = 0 := by
  unfold numBase
  have : c ≠ 98 ∧ c ≠ 111 ∧ c ≠ 120 := by
    refine ⟨?_, ?_, ?_⟩ <;> rintro rfl <;> exact absurd h (by decide)
  rw [if_neg this.1, if_neg this.2.1, if_neg this.2.2]
theorem norm_fig {e : Int} (h0 : 0 ≤ e) (h1 : e < 10) : norm (fig 87 e) = 48 + e := by
  unfold fig; rw [if_pos h1, norm_in (by lia) (by lia)]
theorem dig_dec {e : Int} (h0 : 0 ≤ e) (h1 : e < 10) : isDigitB (48 + e) = true := by
  unfold isDigitB; simp; lia
theorem drop_map (f : Int → Int) (ds r : List Int) : (ds.map f ++ r).drop ds.length = r := by
  have e : ds.length = (ds.map f).length := by rw [List.length_map]
  rw [e, List.drop_left]
theorem numS_dec {es : List Int} {w : Int} (h1 : es ≠ []) (h2 : es.length ≤ 100) (h3 : ∀ d ∈ es, 0 ≤ d ∧ d < 10) (h4 : valOf 10 es = w) : NumS (es.map (fig 87)) w := by
  obtain ⟨e, es', rfl⟩ := List.exists_cons_of_ne_nil h1
  have he := h3 e (List.mem_cons_self ..)
  refine ⟨by simp at h2 ⊢; lia, fun r => ?_, fun r hr => ?_⟩
  · show isDigitB (norm (fig 87 e)) = true
    rw [norm_fig he.1 he.2]; exact dig_dec he.1 he.2
  · obtain ⟨r1, r2, r3⟩ := hr
    have e1 : digRun 10 ((e :: es').map (fig 87) ++ r) = e :: es' := digRun_fig (Or.inl rfl) (by decide) (no_run r1) _ h3
    have e2 : ((e :: es').map (fig 87) ++ r).drop (e :: es').length = r := drop_map _ _ _
    have key := NumR.dec (l := (e :: es').map (fig 87) ++ r) ?_ ?_
    · rw [e1, h4] at key
      rw [List.length_map]; exact key
    · rintro ⟨_, q⟩
      cases es' with
      | nil =>
        have e3 : (([e] : List Int).map (fig 87) ++ r).drop 1 = r := rfl
        rw [e3] at q
        rcases q with q | ⟨q1, q2⟩
        · exact r2 q
        · rw [numBase_no (alnum_no r1).1] at q2; lia
      | cons x2 es2 =>
        have he2 := h3 x2 (List.mem_cons_of_mem _ (List.mem_cons_self ..))
        have e3 : hd (((e :: x2 :: es2).map (fig 87) ++ r).drop 1) = 48 + x2 := norm_fig he2.1 he2.2
        rw [e3] at q
        rcases q with q | ⟨q1, q2⟩
        · lia
        · have : isSmallB (48 + x2) = false := by unfold isSmallB; simp; lia
          rw [numBase_no this] at q2; lia
    · rw [e1, ← List.drop_drop, e2]
      exact r3
theorem numS_base {sh b m : Int} {ds : List Int} {w : Int} (hs : sh = 87 ∨ sh = 55) (hb : 2 ≤ b ∧ b ≤ 16) (hm : numBase m = b) (hm2 : norm m = m) (hm3 : m ≠ 39) (h1 : ds ≠ []) (h2 : ds.length ≤ 100) (h3 : ∀ d ∈ ds, 0 ≤ d ∧ d < b) (h4 : valOf b ds = w) :
    NumS (48 :: m :: ds.map (fig sh)) w := by
  refine ⟨by simp; lia, fun r => (show isDigitB (norm 48) = true by decide), fun r hr => ?_⟩
  obtain ⟨d, ds', rfl⟩ := List.exists_cons_of_ne_nil h1
  have hd0 := h3 d (List.mem_cons_self ..)
  obtain ⟨r1, r2, r3⟩ := hr
  have e1 : digRun b ((d :: ds').map (fig sh) ++ r) = d :: ds' := digRun_fig hs hb.2 (no_run r1) _ h3
  have l0 : (48 :: m :: (d :: ds').map (fig sh)) ++ r = 48 :: m :: ((d :: ds').map (fig sh) ++ r) := rfl
  have l1 : hd ((48 :: m :: ((d :: ds').map (fig sh) ++ r)).drop 1) = m := hm2
  have l2 : (48 :: m :: ((d :: ds').map (fig sh) ++ r)).drop 2 = (d :: ds').map (fig sh) ++ r := rfl
  have l3 : digitV (hd ((d :: ds').map (fig sh) ++ r)) = d := fig_digit hs hd0.1 (by lia)
  have key := NumR.base (l := 48 :: m :: ((d :: ds').map (fig sh) ++ r)) (show norm 48 = 48 by decide) (by rw [l1]; exact hm3) (by rw [l2, l3]; exact hd0.1) (by rw [l1, l2, l3, hm]; exact hd0.2)
  rw [l1, l2, hm, e1, h4] at key
  have e5 : (48 :: m :: (d :: ds').map (fig sh)).length = 2 + (d :: ds').length := by simp; lia
  rw [l0, e5]
  exact key
theorem numS_chr {p : List Int} {v : Int} (hl : 1 ≤ p.length ∧ p.length ≤ 110) (h : ∀ r, hd r ≠ 39 → ChR (p ++ r) v p.length) : NumS (48 :: 39 :: p) v := by
  refine ⟨by simp; lia, fun r => (show isDigitB (norm 48) = true by decide), fun r hr => ?_⟩
  have e5 : (48 :: 39 :: p).length = 2 + p.length := by simp; lia
  rw [e5]
  exact NumR.chr (l := 48 :: 39 :: (p ++ r)) (show norm 48 = 48 by decide) (show norm 39 = 39 by decide) (h r hr.2.1)
theorem numS_twin : NumS [48, 39, 39, 39] 39 :=
  numS_chr (p := [39, 39]) (by decide) fun r _ => ChR.twin (l := 39 :: 39 :: r) (show norm 39 = 39 by decide) (show norm 39 = 39 by decide)
theorem numS_esc {p : List Int} {v : Int} (h : EscR p v) : NumS (48 :: 39 :: 92 :: p) v :=
  numS_chr (p := 92 :: p) (by have := h.2.1; simp; lia) fun r _ => by
    have := ChR.esc (l := 92 :: p ++ r) (show norm 92 = 92 by decide) (h.2.2.2.2.2 r)
    rw [List.length_cons, Nat.add_comm]; exact this
theorem numS_plain {c : Int} (h0 : 32 ≤ c) (h1 : c ≠ 127) (h2 : c ∉ [39, 92]) (h3 : c ≤ 1114111) : NumS [48, 39, c] c :=
  numS_chr (p := [c]) (by simp) fun r _ => by
    have e : norm c = c := norm_in (by lia) h3
    have e2 : c ≠ 39 ∧ c ≠ 92 := by simpa using h2
    have := ChR.plain (l := c :: r) (by show norm c ≠ 92; rw [e]; exact e2.2) (by show norm c ≠ 39; rw [e]; exact e2.1) (by show isQuotableB (norm c) = true; rw [e]; unfold isQuotableB; simp; lia)
    have e1 : hd (c :: r) = c := e
    rw [e1] at this
    exact this
theorem valOf_zeros (b : Int) (k : Nat) (ds : List Int) : valOf b (List.replicate k 0 ++ ds) = valOf b ds := by
  unfold valOf
  rw [List.foldl_append]
  congr 1
  induction k with
  | zero => rfl
  | succ k ih => rw [List.replicate_succ, List.foldl_cons]; simpa using ih
section
variable {n : Nat} {c0 c1 : Cell} {Q : AV → List Cell → Prop} {X : Phi → List Cell → Prop}
theorem o_rep (σ : AS) (x : AV) (k : Int) (Q : AV → Prop) : binS .Mult σ (.lst [x]) (.int k) Q = (0 ≤ k ∧ k ≤ 1000 ∧ Q (.lst (List.replicate k.toNat x))) := rfl
theorem p_ltP (σ : AS) : True := trivial
theorem s_lnumber (h0 : PoolOk c0) (h1 : c1.ok = true) {ws : List Int} (hw : ∀ w ∈ ws, 0 ≤ w ∧ w ≤ 10 ^ 25) (hw1 : 0 < ws.length) (hw2 : ws.length < 100) (k : ∀ c0' row v, PoolOk c0' → NumS row v → Q (.tup [.lst (row.map .int), .int v]) [c0', c1]) : PhiN rowOf (n + 4) 330 [.ref 0, .lst (ws.map .int)] [c0, c1] Q X := by
  refine phi_in (r := r_law_number) w_law_number (by decide) (gc_ok h0 h1) rfl ?_
  show wpSs _ c_law_number ⟨[some (.ref 0), some (.lst (ws.map .int)), none, none, none, none, none], _⟩ _ _
  unfold c_law_number
  walk_at "vm"
  refine s_pick (b := 8) h0 h1 (by decide) (by decide) fun c0' x h0 hx hx2 => ?_
  walk_at "vm"
  refine ⟨by rw [sizeLine_val]; lia, s_pick (b := ws.length) h0 h1 (by lia) (by lia) fun c0' y h0 hy hy2 => ?_⟩
  have hlt : y.toNat < ws.length := by lia
  refine ⟨hy, by lia, ?_⟩
  rw [List.getElem?_map, List.getElem?_eq_getElem hlt]
  have hv := hw _ (List.getElem_mem hlt)
  generalize ws[y.toNat] = w at hv
  have fz : ∀ (row : List Int) (v : Int) (c0' : Cell) (L : List AV), PoolOk c0' → NumS row v → L = row.map .int → AV.closedL L = true ∧ gcOk [c0', c1] = true ∧ Q (.tup [.lst L, .int v]) [c0', c1] := by
    rintro row v c0' _ h0 hn rfl
    exact ⟨closedL_ints _, gc_ok h0 h1, k _ _ _ h0 hn⟩
  walk_at "vm"
  have hsz : ∀ k : Nat, k ≤ 1000 → k ≤ sizeLine := fun k hk => by rw [sizeLine_val]; lia
  by_cases hx0 : x < 3
  · refine ifT (decide_eq_true hx0) ?_
    walk_at "vm"
    refine ⟨by decide, s_pick (b := 3) h0 h1 (by decide) (by decide) fun c0' y h0 hy hy2 => ?_⟩
    repeat (first | walk_at "vm" | simp only [o_rep])
    refine ⟨hy, by lia, s_figures (gc_ok h0 h1) hv.1 hv.2 (by decide) (by decide) fun ds d1 d2 d3 d4 => ?_⟩
    repeat (first | walk_at "vm" | simp only [o_addL])
    have e : List.replicate y.toNat (AV.int 48) ++ (ds.map (fig 87)).map AV.int = ((List.replicate y.toNat 0 ++ ds).map (fig 87)).map AV.int := by
      rw [List.map_append, List.map_append, List.map_replicate, List.map_replicate]; rfl
    refine ⟨by rw [List.length_replicate]; exact hsz _ (by lia), by decide, fz _ _ _ _ h0 (numS_dec (es := List.replicate y.toNat 0 ++ ds) (by simp [d1]) (by simp; lia) ?_ (by rw [valOf_zeros]; exact d4)) e⟩
    intro d hd
    rcases List.mem_append.mp hd with hd | hd
    · rw [(List.mem_replicate.mp hd).2]; decide
    · exact d3 d hd
  · refine ifF (decide_eq_false hx0) ?_
    walk_at "vm"
    by_cases hx3 : x = 3
    · refine ifT (decide_eq_true hx3) ?_
      walk_at "vm"
      refine ⟨by decide, s_figures (gc_ok h0 h1) hv.1 hv.2 (by decide) (by decide) fun ds d1 d2 d3 d4 => ?_⟩
      walk_at "vm"
      exact ⟨hsz _ (by lia), by decide, (fz _ _ _ _ h0 (numS_base (m := 120) (b := 16) (sh := 87) (Or.inl rfl) (by decide) (by decide) (by decide) (by decide) d1 (by lia) d3 d4) (by simp)).2⟩
    refine ifF (decide_eq_false hx3) ?_
    walk_at "vm"
    by_cases hx4 : x = 4
    · refine ifT (decide_eq_true hx4) ?_
      walk_at "vm"
      refine ⟨by decide, s_figures (gc_ok h0 h1) hv.1 hv.2 (by decide) (by decide) fun ds d1 d2 d3 d4 => ?_⟩
      walk_at "vm"
      exact ⟨hsz _ (by lia), by decide, (fz _ _ _ _ h0 (numS_base (m := 120) (b := 16) (sh := 55) (Or.inr rfl) (by decide) (by decide) (by decide) (by decide) d1 (by lia) d3 d4) (by simp)).2⟩
    refine ifF (decide_eq_false hx4) ?_
    walk_at "vm"
    by_cases hx5 : x = 5
    · refine ifT (decide_eq_true hx5) ?_
      walk_at "vm"
      refine ⟨by decide, s_figures (gc_ok h0 h1) hv.1 hv.2 (by decide) (by decide) fun ds d1 d2 d3 d4 => ?_⟩
      walk_at "vm"
      exact ⟨hsz _ (by lia), by decide, (fz _ _ _ _ h0 (numS_base (m := 111) (b := 8) (sh := 87) (Or.inl rfl) (by decide) (by decide) (by decide) (by decide) d1 (by lia) d3 d4) (by simp)).2⟩
    refine ifF (decide_eq_false hx5) ?_
    walk_at "vm"
    by_cases hx6 : x = 6
    · refine ifT (decide_eq_true hx6) ?_
      walk_at "vm"
      have q1 := Int.fmod_nonneg_of_pos w (show (0 : Int) < 4096 by decide)
      have q2 := Int.fmod_lt_of_pos w (show (0 : Int) < 4096 by decide)
      refine ⟨by decide, by decide, s_figures (gc_ok h0 h1) q1 (by lia) (by decide) (by decide) fun ds d1 d2 d3 d4 => ?_⟩
      walk_at "vm"
      exact ⟨hsz _ (by lia), by decide, by decide, (fz _ _ _ _ h0 (numS_base (m := 98) (b := 2) (sh := 87) (Or.inl rfl) (by decide) (by decide) (by decide) (by decide) d1 (by lia) d3 d4) (by simp)).2⟩
    refine ifF (decide_eq_false hx6) ?_
    walk_at "vm"
    refine s_pick (b := 5) h0 h1 (by decide) (by decide) fun c0' y h0 hy hy2 => ?_
    walk_at "vm"
    by_cases hy0 : y = 0
    · refine ifT (decide_eq_true hy0) ?_
      walk_at "vm"
      exact ⟨by decide, by decide, (fz [48, 39, 39, 39] 39 _ _ h0 numS_twin rfl).2⟩
    refine ifF (decide_eq_false hy0) ?_
    walk_at "vm"
    by_cases hy4 : y < 4
    · refine ifT (decide_eq_true hy4) ?_
      walk_at "vm"
      refine s_lescape h0 h1 fun c0' p v h0 he => ?_
      refine ⟨rfl, ?_⟩
      show wpSs _ _ ⟨[some (.ref 0), some (.lst (ws.map .int)), some (.int x), some (.int w), some (.int y), some (.lst ((92 :: p).map .int)), some (.int v)], [c0', c1]⟩ _ _
      have hpl := he.2.1
      walk_at "vm"
      exact ⟨by decide, hsz _ (by lia), by decide, (fz (48 :: 39 :: 92 :: p) v _ _ h0 (numS_esc he) (by simp)).2⟩
    · refine ifF (decide_eq_false hy4) ?_
      walk_at "vm"
      refine ⟨by decide, s_plain (ns := [39, 92]) h0 h1 (by intro x hx; simp at hx; lia) fun c0' t h0 t1 t2 t3 t4 => ?_⟩
      walk_at "vm"
      exact ⟨by decide, by decide, (fz [48, 39, t] t _ _ h0 (numS_plain t1 t2 t3 t4) rfl).2⟩
end

-- V23
theorem pdL_ints : ∀ l : List Int, AV.pdL (l.map .int) = some (l.map PyData.int)
  | [] => rfl
  | c :: l => by
    show (match some (PyData.int c), AV.pdL (l.map .int) with | some d, some ds => some (d :: ds) | _, _ => none) = _
    rw [pdL_ints l]; rfl
theorem canAll_ints : ∀ l : List Int, PyData.canLayAll0 (l.map PyData.int) = true
  | [] => rfl
  | c :: l => by show (true && PyData.canLayAll0 (l.map PyData.int)) = true; rw [canAll_ints l]; rfl
theorem depthAll_ints : ∀ l : List Int, PyData.depthAll (l.map PyData.int) = 0
  | [] => rfl
  | c :: l => by show max 0 (PyData.depthAll (l.map PyData.int)) = 0; rw [depthAll_ints l]; rfl
theorem eqvAll_ints : ∀ a b : List Int, PyData.eqvAll (a.map PyData.int) (b.map PyData.int) = decide (a = b)
  | [], [] => rfl
  | [], _ :: _ => rfl
  | _ :: _, [] => rfl
  | x :: a, y :: b => by
    show (x == y && PyData.eqvAll (a.map PyData.int) (b.map PyData.int)) = _
    rw [eqvAll_ints a b]
    by_cases h1 : x = y <;> by_cases h2 : a = b <;> simp [h1, h2]
theorem eqP_ints {a b : List Int} {Q : Bool → Prop} {neg : Bool} (h : Q (if neg then !decide (a = b) else decide (a = b))) : eqP neg (some (.list (a.map .int))) (some (.list (b.map .int))) Q := by
  refine ⟨canAll_ints a, canAll_ints b, ?_, ?_⟩
  · show min (PyData.depthAll (a.map .int) + 1) (PyData.depthAll (b.map .int) + 1) ≤ 10
    rw [depthAll_ints, depthAll_ints]; decide
  · show Q (if neg then !PyData.eqvAll (a.map .int) (b.map .int) else PyData.eqvAll (a.map .int) (b.map .int))
    rw [eqvAll_ints]; exact h
theorem eqP_self {d : PyData} {Q : Bool → Prop} {neg : Bool} (h1 : d.canLay0 = true) (h2 : d.depth ≤ 10) (h : Q (!neg)) : eqP neg (some d) (some d) Q := by
  refine ⟨h1, h1, by rw [Nat.min_self]; exact h2, ?_⟩
  have e : PyData.eqv d d = true := PySem.SeqAt.eqv_refl d h1
  rw [e]
  cases neg <;> exact h
theorem data_refints (vs : List (Option AV)) (cs : List Cell) (k : Nat) (l : List Int) (h : cs[k]? = some (.lst (l.map .int))) : (⟨vs, cs⟩ : AS).data (.ref k) = some (.list (l.map .int)) := by
  show (match cs[k]? with | some (.lst xs) => (AV.pdL xs).map PyData.list | _ => none) = _
  rw [h]
  show (AV.pdL (l.map .int)).map PyData.list = _
  rw [pdL_ints]; rfl
theorem data_ints (σ : AS) (l : List Int) : σ.data (.lst (l.map .int)) = some (.list (l.map .int)) := by
  show (AV.pdL (l.map .int)).map PyData.list = _
  rw [pdL_ints]; rfl
theorem p_eqRL (σ : AS) (k : Nat) (ys : List AV) (Q : Bool → Prop) : cmpS .Eq σ (.ref k) (.lst ys) Q = eqP false (σ.data (.ref k)) (σ.data (.lst ys)) Q := rfl
theorem p_inS (σ : AS) (x : Str) (ns : List Str) (Q : Bool → Prop) (h : Q (ns.any (· == x))) : cmpS .In σ (.str x) (.lst (ns.map .str)) Q := ⟨ns, rfl, h⟩

structure GapS (must : Bool) (last : Bk) (g : List Int) : Prop where
  len : g.length ≤ 30
  lay : Lay g
  ne : must = true → g ≠ []
  fol : g ≠ [] → ∀ r, Fol last (g ++ r)

noncomputable def endish : Bk → Bool | .sign => true | .fin => true | _ => false
theorem endish_any (b : Bk) : ([("sign" : Str), "end"].any (· == b.s)) = endish b := by cases b <;> decide +kernel
noncomputable def c_gap_body : CSs := (.cons (.asg 6 (.call "_law_pick" 276 (.cons (.var 0) (.cons (.int 5) .nil)))) (.cons (.asg 7 (.sub (.lst (.cons (.lst .nil) (.cons (.lst (.cons (.int 42) .nil)) (.cons (.lst (.cons (.int 39) (.cons (.int 97) .nil))) (.cons (.lst (.cons (.int 47) .nil)) (.cons (.lst (.cons (.int 34) (.cons (.int 40) (.cons (.int 233) .nil)))) (.cons (.lst (.cons (.int 42) (.cons (.int 32) (.cons (.int 47) .nil)))) (.cons (.lst (.cons (.int 5) (.cons (.int 92) (.cons (.int 46) .nil)))) .nil)))))))) (.call "_law_pick" 276 (.cons (.var 0) (.cons (.int 7) .nil))))) (.cons (.cif (.cmp .Eq (.var 6) (.int 0)) (.cons (.app 3 (.int 32)) .nil) (.cons (.cif (.cmp .Eq (.var 6) (.int 1)) (.cons (.app 3 (.int 10)) .nil) (.cons (.cif (.cmp .Eq (.var 6) (.int 2)) (.cons (.aug 3 .Add (.lst (.cons (.int 9) (.cons (.int 13) .nil)))) .nil) (.cons (.cif (.cmp .Eq (.var 6) (.int 3)) (.cons (.aug 3 .Add (.bin .Add (.bin .Add (.lst (.cons (.int 37) .nil)) (.var 7)) (.lst (.cons (.int 10) .nil)))) .nil) (.cons (.cif (.bop .And (.cons (.cmp .Eq (.var 3) (.lst .nil)) (.cons (.cmp .In (.var 2) (.lst (.cons (.str "sign") (.cons (.str "end") .nil)))) .nil))) (.cons (.app 3 (.int 32)) .nil) .nil) (.cons (.aug 3 .Add (.bin .Add (.bin .Add (.lst (.cons (.int 47) (.cons (.int 42) .nil))) (.var 7)) (.lst (.cons (.int 42) (.cons (.int 47) .nil))))) .nil))) .nil)) .nil)) .nil)) .nil)))
section
variable {n : Nat} {c0 c1 : Cell} {Q : AV → List Cell → Prop} {X : Phi → List Cell → Prop}
theorem get_map {α : Type} {f : α → AV} {l : List α} {z : Nat} (h : z < l.length) : ∃ b ∈ l, (l.map f)[z]? = some (f b) := ⟨l[z], List.getElem_mem h, by rw [List.getElem?_map, List.getElem?_eq_getElem h]; rfl⟩
theorem bodies_get {w : Int} (h1 : 0 ≤ w) (h2 : w < 7) : ∃ b ∈ bodies, [AV.lst [], AV.lst [AV.int 42], AV.lst [AV.int 39, AV.int 97], AV.lst [AV.int 47], AV.lst [AV.int 34, AV.int 40, AV.int 233], AV.lst [AV.int 42, AV.int 32, AV.int 47], AV.lst [AV.int 5, AV.int 92, AV.int 46]][w.toNat]? = some (.lst (b.map .int)) :=
  get_map (f := fun b : List Int => AV.lst (List.map AV.int b)) (l := bodies) (by show w.toNat < 7; lia)
theorem k_ceq0 {vs : List (Option AV)} {cs : List Cell} {Q : AV → AS → Prop} {k : Nat} {l : List Int} (h : nthC cs k = some (.lst (l.map .int))) (q : Q (.bool (decide (l = []))) ⟨vs, cs⟩) : c2P .Eq (.ref k) Q (.lst []) ⟨vs, cs⟩ := by
  show cmpS .Eq _ _ _ _
  have e0 : ([] : List AV) = ([] : List Int).map .int := rfl
  rw [p_eqRL, data_refints _ _ k l (by rw [← nthC_eq]; exact h), e0, data_ints]
  exact eqP_ints q
structure GapI (c1 : Cell) (must : Bool) (last : Bk) (x : Int) (j : Nat) (c0 : Cell) (g : List Int) : Prop where
  pool : PoolOk c0
  len : g.length ≤ 8 * j
  lay : Lay g
  ne : 1 ≤ j → g ≠ []
  fol : g ≠ [] → ∀ r, Fol last (g ++ r)
noncomputable def GapL (c1 : Cell) (must : Bool) (last : Bk) (x : Int) (j : Nat) (σ : AS) : Prop := ∃ (c0 : Cell) (g : List Int) (y z u : Option AV), GapI c1 must last x j c0 g ∧ σ = ⟨[some (.ref 0), some (.bool must), some (.str last.s), some (.ref 2), some (.int x), y, z, u], [c0, c1, .lst (g.map .int)]⟩
theorem GapI.app {c1 : Cell} {must : Bool} {last : Bk} {x : Int} {j : Nat} {c0 c0' : Cell} {g : List Int} (h : GapI c1 must last x j c0 g) (h0 : PoolOk c0') {p : List Int} {y z u : Option AV} (a1 : p.length ≤ 8) (a2 : p ≠ []) (a3 : Lay p) (a4 : g = [] → ∀ r, Fol last (p ++ r)) :
    GapL c1 must last x (j + 1) ⟨[some (.ref 0), some (.bool must), some (.str last.s), some (.ref 2), some (.int x), y, z, u], [c0', c1, .lst ((g ++ p).map .int)]⟩ := by
  refine ⟨c0', g ++ p, y, z, u, ⟨h0, ?_, h.lay.app a3, fun _ q => a2 (List.append_eq_nil_iff.mp q).2, fun _ r => ?_⟩, rfl⟩
  · have := h.len
    rw [List.length_append]; lia
  rw [List.append_assoc]
  by_cases hg : g = []
  · rw [hg, List.nil_append]; exact a4 hg r
  · exact h.fol hg _
theorem fol1 {last : Bk} {c : Int} {p : List Int} (h : isLayoutB (norm c) = true) (r : List Int) : Fol last (c :: p ++ r) := fol_lay (Or.inl h)
theorem gap_loop (h0 : PoolOk c0) (h1 : c1.ok = true) {must : Bool} {last : Bk} {P' : AF → AS → Prop} {X' : Phi → AS → Prop} {x : Int} (hx : 0 ≤ x) (hx2 : x < 3) (hm : must = true → 1 ≤ x)
    (k : ∀ c0' g y z u, PoolOk c0' → GapS must last g → P' .next ⟨[some (.ref 0), some (.bool must), some (.str last.s), some (.ref 2), some (.int x), y, z, u], [c0', c1, .lst (g.map .int)]⟩) :
    forGo (fun σ P => wpSs (PhiN rowOf (n + 1)) c_gap_body σ P X') 5 P' ((List.range x.toNat).map fun k : Nat => AV.int (k : Int)) ⟨[some (.ref 0), some (.bool must), some (.str last.s), some (.ref 2), some (.int x), none, none, none], [c0, c1, .lst []]⟩ := by
  refine k_forN (GapL c1 must last x) ⟨c0, [], none, none, none, ⟨h0, Nat.le_refl _, Lay.nil, fun q => by lia, fun q => absurd rfl q⟩, rfl⟩ ?_ ?_
  · rintro j σ K hj ⟨c0, g, y, z, u, hI, rfl⟩ hK
    have hl := hI.len
    unfold c_gap_body
    walk_at "wk"
    refine s_pick (b := 5) hI.pool h1 (by decide) (by decide) fun c0' kd h0 hk hk2 => ?_
    walk_at "wk"
    refine s_pick (b := 7) h0 h1 (by decide) (by decide) fun c0' w h0 hw hw2 => ?_
    walk_at "wk"
    obtain ⟨b, hb, hbe⟩ := bodies_get hw hw2
    refine k_s2 hw (by lia) hbe ?_
    have hbl := (bodies_row b hb).2
    have f1 : ([9, 13] : List Int).length = 2 := rfl
    have f2 : ([37] : List Int).length = 1 := rfl
    have f3 : ([10] : List Int).length = 1 := rfl
    have f4 : ([47, 42] : List Int).length = 2 := rfl
    have f5 : ([42, 47] : List Int).length = 2 := rfl
    have hbl2 : ([37] ++ b).length = b.length + 1 := by rw [List.length_append, Nat.add_comm]; rfl
    have hbl3 : ([37] ++ b ++ [10]).length = b.length + 2 := by rw [List.length_append, hbl2]; rfl
    have hbl4 : ([47, 42] ++ b).length = b.length + 2 := by rw [List.length_append, Nat.add_comm]; rfl
    have hbl5 : ([47, 42] ++ b ++ [42, 47]).length = b.length + 4 := by rw [List.length_append, hbl4]; rfl
    have hbl6 : (g ++ [32]).length = g.length + 1 := List.length_append
    by_cases k0 : kd = 0
    · walk_at "wb"
      exact hK _ (hI.app h0 (by decide) (by decide) (Lay.one (by decide)) (fun _ => fol1 (by decide)))
    by_cases k1 : kd = 1
    · walk_at "wb"
      exact hK _ (hI.app h0 (by decide) (by decide) (Lay.one (by decide)) (fun _ => fol1 (by decide)))
    by_cases k2 : kd = 2
    · walk_at "wb"
      exact hK _ (hI.app h0 (by decide) (by decide) (Lay.app (a := [9]) (b := [13]) (Lay.one (by decide)) (Lay.one (by decide))) (fun _ => fol1 (by decide)))
    by_cases k3 : kd = 3
    · walk_at "wb"
      exact hK _ (hI.app h0 (show ([37] ++ b ++ [10]).length ≤ 8 by lia) (by simp) (Lay.row (bodies_row b hb).1) (fun _ r => fol_lay (Or.inr rfl)))
    have hrem : Lay ([47, 42] ++ b ++ [42, 47]) := Lay.rem (bodies_rem hb)
    walk_at "wb"
    refine k_ceq0 rfl ?_
    by_cases hg : g = []
    · refine anT (decide_eq_true hg) ?_
      walk_at "wb"
      refine p_inS _ _ ["sign", "end"] _ ?_
      rw [endish_any]
      cases he : endish last with
      | true =>
        walk_at "wb"
        refine hK _ ?_
        rw [List.append_assoc]
        exact hI.app h0 (show ([32] ++ ([47, 42] ++ b ++ [42, 47])).length ≤ 8 by rw [List.length_append, hbl5]; show 1 + _ ≤ 8; lia) (by simp) (Lay.app (a := [32]) (Lay.one (by decide)) hrem) (fun _ => fol1 (by decide))
      | false =>
        walk_at "wb"
        exact hK _ (hI.app h0 (show ([47, 42] ++ b ++ [42, 47]).length ≤ 8 by lia) (by simp) hrem (fun hg r => fol_rem (by rfl) (fun q => by subst q; cases he) (fun q => by subst q; cases he)))
    · walk_at "wb"
      exact hK _ (hI.app h0 (show ([47, 42] ++ b ++ [42, 47]).length ≤ 8 by lia) (by simp) hrem (fun q => absurd q hg))
  · rintro σ ⟨c0, g, y, z, u, hI, rfl⟩
    have hl := hI.len
    refine k _ _ _ _ _ hI.pool ⟨by lia, hI.lay, fun q => hI.ne ?_, hI.fol⟩
    have := hm q
    lia
theorem s_lgap (h0 : PoolOk c0) (h1 : c1.ok = true) {must : Bool} {last : Bk} (k : ∀ c0' g, PoolOk c0' → GapS must last g → Q (.lst (g.map .int)) [c0', c1]) : PhiN rowOf (n + 2) 342 [.ref 0, .bool must, .str last.s] [c0, c1] Q X := by
  refine phi_in (r := r_law_gap) w_law_gap (by decide) (gc_ok h0 h1) rfl ?_
  show wpSs _ c_law_gap ⟨[some (.ref 0), some (.bool must), some (.str last.s), none, none, none, none, none], _⟩ _ _
  unfold c_law_gap
  walk_at "wk"
  refine s_pick (b := 3) h0 h1 (by decide) (by decide) fun c0' x h0 hx hx2 => ?_
  have fin : ∀ (x : Int), 0 ≤ x → x < 3 → (must = true → 1 ≤ x) → frP (PhiN rowOf (n + 1)) 5 c_gap_body (sqP (PhiN rowOf (n + 1)) (.cons (.ret (.frz 3)) .nil) (finP Q) (finX X)) (finX X) (.int x) ⟨[some (.ref 0), some (.bool must), some (.str last.s), some (.ref 2), some (.int x), none, none, none], [c0', c1, .lst []]⟩ := by
    intro x hx hx2 hm
    refine k_fr hx (by lia) (gap_loop h0 h1 hx hx2 hm fun c0' g y z u h0 hg => k_next ?_)
    have hgc := gc_ok h0 h1
    walk_at "wk"
    exact k _ _ h0 hg
  walk_at "wk"
  cases hmm : must with
  | true =>
    subst hmm
    walk_at "wk"
    by_cases hx0 : x = 0
    · walk_at "wb"
      exact fin 1 (by decide) (by decide) (by decide)
    · walk_at "wb"
      exact fin x hx hx2 (by lia)
  | false =>
    subst hmm
    refine anF rfl ?_
    walk_at "wb"
    exact fin x hx hx2 (fun q => by cases q)
end

-- V24
theorem textOf_app (a b : List Int) : textOf a ++ textOf b = textOf (a ++ b) := by
  unfold textOf
  show (⟨(a.map Int.toNat).toArray ++ (b.map Int.toNat).toArray⟩ : Str) = _
  rw [List.map_append]; simp
theorem cods_textOf {l : List Int} (h : ∀ c ∈ l, 0 ≤ c) : cods (textOf l) = l := by
  unfold cods textOf
  show ((l.map Int.toNat).toArray.toList).map _ = l
  rw [List.map_map]
  have : ∀ l : List Int, (∀ c ∈ l, 0 ≤ c) → l.map ((fun n : Nat => (n : Int)) ∘ Int.toNat) = l := by
    intro l
    induction l with
    | nil => intro _; rfl
    | cons c l ih =>
      intro h
      rw [List.map_cons, ih fun x hx => h x (List.mem_cons_of_mem _ hx)]
      show ((c.toNat : Nat) : Int) :: l = c :: l
      rw [Int.toNat_of_nonneg (h c (List.mem_cons_self ..))]
  simpa using this l h
theorem ints_nat : ∀ {l : List Int}, (∀ c ∈ l, 0 ≤ c) → l.map AV.int = (l.map Int.toNat).map (fun n : Nat => AV.int (n : Int))
  | [], _ => rfl
  | c :: l, h => by
    rw [List.map_cons, List.map_cons, List.map_cons, ← ints_nat fun x hx => h x (List.mem_cons_of_mem _ hx), Int.toNat_of_nonneg (h c (List.mem_cons_self ..))]
theorem starts_rem (t : List Int) : Txt.startswith (textOf (47 :: 42 :: t)) "/*" = true := by
  have e : ("/*" : Str) = ⟨#[47, 42]⟩ := by decide +kernel
  rw [e]
  unfold Txt.startswith
  rw [PySem.StrLaws.subAt_eq]
  unfold textOf
  simp [Str.length]
noncomputable def OkV (v : AV) : Prop := (∃ l : List Int, (∀ c ∈ l, 0 ≤ c ∧ c ≤ 1114111) ∧ v = .str (textOf l)) ∨ (∃ i, v = .int i) ∨ (∃ l : List Int, v = .tup (l.map .int))
structure TokS (kd : Str) (v : AV) (fr : Fr) (bk : Bk) (row : List Int) : Prop where
  ok : OkV v
  kdOk : PyData.strOk kd = true
  len : 1 ≤ row.length ∧ row.length ≤ 600
  fro : ∀ r, Fol bk r → Fro fr (row ++ r)
  skip : ∀ r, Fol bk r → ¬ (hd (row ++ r) = 47 ∧ hd ((row ++ r).drop 1) = 42)
  tok : ∀ r (near : Prop), Fol bk r → ¬ near → TokR near (row ++ r) kd v row.length
  tokn : ∀ r (near : Prop), Fol bk r → near → TokR near (row ++ r) (if kd = "open" then "open_ct" else kd) v row.length
theorem TokS.of {kd : Str} {v : AV} {fr : Fr} {bk : Bk} {row : List Int} (ok : OkV v) (kdOk : PyData.strOk kd = true) (ne : kd ≠ "open") (len : 1 ≤ row.length ∧ row.length ≤ 600) (fro : ∀ r, Fol bk r → Fro fr (row ++ r))
    (skip : ∀ r, Fol bk r → ¬ (hd (row ++ r) = 47 ∧ hd ((row ++ r).drop 1) = 42)) (tok : ∀ r (near : Prop), Fol bk r → TokR near (row ++ r) kd v row.length) : TokS kd v fr bk row :=
  ⟨ok, kdOk, len, fro, skip, fun r near h _ => tok r near h, fun r near h _ => by rw [if_neg ne]; exact tok r near h⟩

theorem wordN_app : ∀ {l r : List Int}, (∀ c ∈ l, isAlnumB (norm c) = true) → isAlnumB (hd r) = false → wordN (l ++ r) = l.length
  | [], [], _, _ => rfl
  | [], c :: r, _, h => by show (if isAlnumB (norm c) = true then _ else 0) = 0; rw [if_neg]; intro q; have : isAlnumB (norm c) = false := h; rw [this] at q; cases q
  | c :: l, r, hl, h => by
    show (if isAlnumB (norm c) = true then 1 + wordN (l ++ r) else 0) = _
    rw [if_pos (hl c (List.mem_cons_self ..)), wordN_app (fun x hx => hl x (List.mem_cons_of_mem _ hx)) h, List.length_cons, Nat.add_comm]
theorem symN_app : ∀ {l r : List Int}, (∀ c ∈ l, isSymbolB (norm c) = true) → isSymbolB (hd r) = false → symN (l ++ r) = l.length
  | [], [], _, _ => rfl
  | [], c :: r, _, h => by show (if isSymbolB (norm c) = true then _ else 0) = 0; rw [if_neg]; intro q; have : isSymbolB (norm c) = false := h; rw [this] at q; cases q
  | c :: l, r, hl, h => by
    show (if isSymbolB (norm c) = true then 1 + symN (l ++ r) else 0) = _
    rw [if_pos (hl c (List.mem_cons_self ..)), symN_app (fun x hx => hl x (List.mem_cons_of_mem _ hx)) h, List.length_cons, Nat.add_comm]
theorem ws_alnum : ∀ w ∈ [(97 : Int), 90, 48, 95, 57, 113], isAlnumB (norm w) = true ∧ 0 ≤ w ∧ w ≤ 1114111 := by decide
theorem cls_small {c : Int} (h : isSmallB c = true) : cls c = 1 := by
  have h40 : c ≠ 40 := by rintro rfl; exact absurd h (by decide)
  unfold cls; rw [if_neg h40, if_pos h]
theorem cls_digit {c : Int} (h : isDigitB c = true) : cls c = 3 := by
  have e : ∀ k : Fin 58, isDigitB (k.val : Int) = true → cls (k.val : Int) = 3 := by decide +kernel
  have hr : 48 ≤ c ∧ c ≤ 57 := by unfold isDigitB at h; simpa using h
  have e3 : ((⟨c.toNat, by lia⟩ : Fin 58).val : Int) = c := by show ((c.toNat : Nat) : Int) = c; lia
  have := e ⟨c.toNat, by lia⟩
  rw [e3] at this
  exact this h
theorem word_range {f : Int} {ws : List Int} (h0 : 0 ≤ f ∧ f ≤ 1114111) (hw : ∀ w ∈ ws, w ∈ [(97 : Int), 90, 48, 95, 57, 113]) : ∀ c ∈ f :: ws, 0 ≤ c ∧ c ≤ 1114111 := by
  intro c hc
  rcases List.mem_cons.mp hc with rfl | hc
  · exact h0
  · exact (ws_alnum c (hw c hc)).2
theorem tokS_name {f : Int} {ws : List Int} (h0 : 97 ≤ f) (h1 : f ≤ 122) (hl : ws.length ≤ 3) (hw : ∀ w ∈ ws, w ∈ [(97 : Int), 90, 48, 95, 57, 113]) : TokS "name" (.str (textOf (f :: ws))) .word .word (f :: ws) := by
  have hn : norm f = f := norm_in (by lia) (by lia)
  have hs : isSmallB (norm f) = true := by rw [hn]; unfold isSmallB; simp; lia
  have ha : isAlnumB (norm f) = true := by unfold isAlnumB; rw [hs]; rfl
  have hall : ∀ c ∈ f :: ws, isAlnumB (norm c) = true := by
    intro c hc
    rcases List.mem_cons.mp hc with rfl | hc
    · exact ha
    · exact (ws_alnum c (hw c hc)).1
  refine .of (Or.inl ⟨f :: ws, word_range (by lia) hw, rfl⟩) (by decide +kernel) (by decide +kernel) (by simp; lia) (fun r _ => ha) (fun r _ q => (alnum_facts ha).2.2.2.2.1 q.1) fun r near hr => ?_
  have := TokR.word (near := near) (l := (f :: ws) ++ r) (cls_small hs)
  rw [wordN_app hall hr, List.take_left] at this
  exact this
theorem tokS_var {f : Int} {ws : List Int} (h0 : f ∈ [(95 : Int), 65, 90, 77]) (hl : ws.length ≤ 3) (hw : ∀ w ∈ ws, w ∈ [(97 : Int), 90, 48, 95, 57, 113]) : TokS "var" (.str (textOf (f :: ws))) .word .word (f :: ws) := by
  have hf : ∀ f ∈ [(95 : Int), 65, 90, 77], cls (norm f) = 2 ∧ isAlnumB (norm f) = true ∧ 0 ≤ f ∧ f ≤ 1114111 := by decide +kernel
  obtain ⟨hc, ha, h1⟩ := hf f h0
  have hall : ∀ c ∈ f :: ws, isAlnumB (norm c) = true := by
    intro c hc
    rcases List.mem_cons.mp hc with rfl | hc
    · exact ha
    · exact (ws_alnum c (hw c hc)).1
  refine .of (Or.inl ⟨f :: ws, word_range h1 hw, rfl⟩) (by decide +kernel) (by decide +kernel) (by simp; lia) (fun r _ => ha) (fun r _ q => (alnum_facts ha).2.2.2.2.1 q.1) fun r near hr => ?_
  have := TokR.var (near := near) (l := (f :: ws) ++ r) hc
  rw [wordN_app hall hr, List.take_left] at this
  exact this
theorem sym_norm {c : Int} (h : isSymbolB c = true) : norm c = c := by have := sym_range h; exact norm_in (by lia) (by lia)
theorem tokS_sign {ds : List Int} (h1 : ds ≠ []) (hl : ds.length ≤ 10) (hs : ∀ c ∈ ds, isSymbolB c = true) (h46 : ds ≠ [46]) (hrem : ∀ t, ds ≠ 47 :: 42 :: t) : TokS "name" (.str (textOf ds)) .sign .sign ds := by
  obtain ⟨d, ds', rfl⟩ := List.exists_cons_of_ne_nil h1
  have hd0 := hs d (List.mem_cons_self ..)
  have hn := sym_norm hd0
  have hdd : ∀ r, hd (d :: ds' ++ r) = d := fun r => hn
  have hall : ∀ c ∈ d :: ds', isSymbolB (norm c) = true := fun c hc => by rw [sym_norm (hs c hc)]; exact hs c hc
  -- the code behind the first one
  have nxt : ∀ r, Fol .sign r → (ds' = [] ∧ isSymbolB (hd ((d :: ds' ++ r).drop 1)) = false) ∨ (∃ e t, ds' = e :: t ∧ isSymbolB e = true ∧ hd ((d :: ds' ++ r).drop 1) = e) := by
    intro r hr
    cases ds' with
    | nil => exact Or.inl ⟨rfl, hr⟩
    | cons e t =>
      have he := hs e (List.mem_cons_of_mem _ (List.mem_cons_self ..))
      exact Or.inr ⟨e, t, rfl, he, sym_norm he⟩
  refine .of (Or.inl ⟨_, fun c hc => by have := sym_range (hs c hc); lia, rfl⟩) (by decide +kernel) (by decide +kernel) (by simp at hl ⊢; lia) (fun r hr => ⟨by rw [hdd]; exact hd0, ?_⟩) (fun r hr q => ?_) fun r near hr => ?_
  · rintro ⟨q1, q2⟩
    rw [hdd] at q1
    rcases nxt r hr with ⟨a, _⟩ | ⟨e, t, _, a, b⟩
    · exact h46 (by rw [a, q1])
    · rw [b, (sym_facts a).2.1] at q2; cases q2
  · rw [hdd] at q
    rcases nxt r hr with ⟨_, b⟩ | ⟨e, t, a, _, b⟩
    · rw [q.2] at b; exact absurd b (by decide +kernel)
    · rw [b] at q; exact hrem t (by rw [a, q.1, q.2])
  · have := TokR.sym (near := near) (l := d :: ds' ++ r) (by rw [hdd]; exact (sym_facts hd0).2.2.2.2.2.2.2) ?_
    · rw [symN_app hall hr, List.take_left] at this
      exact this
    · rintro ⟨q1, q2⟩
      rw [hdd] at q1
      rcases nxt r hr with ⟨a, _⟩ | ⟨e, t, _, a, b⟩
      · exact h46 (by rw [a, q1])
      · rw [b] at q2
        have f := sym_facts a
        have f2 := sym_range a
        rcases q2 with q | q | q
        · lia
        · exact f.2.2.2.2.2.1 q
        · rw [f.2.2.2.2.2.2.1] at q; cases q
theorem fro_solo {c : Int} (h : c ∈ [(33 : Int), 59, 41, 91, 93, 123, 125, 44, 124, 40]) (r : List Int) : hd (c :: r) = c := by
  have : ∀ c ∈ [(33 : Int), 59, 41, 91, 93, 123, 125, 44, 124, 40], norm c = c := by decide
  exact this c h
theorem tokS_solo {c : Int} (h : c ∈ [(33 : Int), 59]) : TokS "name" (.str (textOf [c])) .solo .solo [c] := by
  have hf : ∀ c ∈ [(33 : Int), 59], c ∈ [(33 : Int), 59, 41, 91, 93, 123, 125, 44, 124, 40] ∧ cls c = 9 ∧ chOf c = textOf [c] ∧ 0 ≤ c ∧ c ≤ 1114111 := by decide +kernel
  obtain ⟨h1, h2, h3, h4⟩ := hf c h
  have e : ∀ r, hd ([c] ++ r) = c := fun r => fro_solo h1 r
  refine .of (Or.inl ⟨[c], by simpa using h4, rfl⟩) (by decide +kernel) (by decide +kernel) (by simp) (fun r _ => by show hd ([c] ++ r) ∈ _; rw [e]; exact h1) (fun r _ q => by rw [e] at q; exact (solo_facts h1).2.2.2.2.2.2.2.1 q.1) fun r near hr => ?_
  have := TokR.solo (near := near) (l := [c] ++ r) (by rw [e]; exact h2)
  rw [e, h3] at this
  exact this
theorem tokS_punct {c : Int} (h : c ∈ [(41 : Int), 91, 93, 123, 125, 44, 124]) : TokS "punct" (.str (textOf [c])) .solo .solo [c] := by
  have hf : ∀ c ∈ [(41 : Int), 91, 93, 123, 125, 44, 124], c ∈ [(33 : Int), 59, 41, 91, 93, 123, 125, 44, 124, 40] ∧ cls c = 8 ∧ chOf c = textOf [c] ∧ 0 ≤ c ∧ c ≤ 1114111 := by decide +kernel
  obtain ⟨h1, h2, h3, h4⟩ := hf c h
  have e : ∀ r, hd ([c] ++ r) = c := fun r => fro_solo h1 r
  refine .of (Or.inl ⟨[c], by simpa using h4, rfl⟩) (by decide +kernel) (by decide +kernel) (by simp) (fun r _ => by show hd ([c] ++ r) ∈ _; rw [e]; exact h1) (fun r _ q => by rw [e] at q; exact (solo_facts h1).2.2.2.2.2.2.2.1 q.1) fun r near hr => ?_
  have := TokR.pun (near := near) (l := [c] ++ r) (by rw [e]; exact h2)
  rw [e, h3] at this
  exact this
theorem tokS_open : TokS "open" (.str "(") .solo .solo [40] := by
  have h1 : (40 : Int) ∈ [(33 : Int), 59, 41, 91, 93, 123, 125, 44, 124, 40] := by decide
  have e : ∀ r, hd ([40] ++ r) = 40 := fun r => fro_solo h1 r
  refine ⟨Or.inl ⟨[40], by decide, congrArg AV.str (by decide +kernel)⟩, by decide +kernel, by simp, fun r _ => by show hd ([40] ++ r) ∈ _; rw [e]; exact h1, fun r _ q => by rw [e] at q; exact absurd q.1 (by decide), fun r near _ hn => TokR.opn (e r) hn, fun r near _ hn => ?_⟩
  rw [if_pos rfl]
  exact TokR.opc (e r) hn
theorem tokS_end : TokS "end" (.str ".") .sign .fin [46] := by
  have e : ∀ r, hd ([46] ++ r) = 46 := fun r => (show norm 46 = 46 by decide)
  have hs : isSymbolB 46 = true := by decide +kernel
  refine .of (Or.inl ⟨[46], by decide, congrArg AV.str (by decide +kernel)⟩) (by decide +kernel) (by decide +kernel) (by simp) (fun r hr => ⟨by rw [e]; exact hs, ?_⟩) (fun r _ q => by rw [e] at q; exact absurd q.1 (by decide)) fun r near hr => TokR.fin ⟨e r, hr⟩
  rintro ⟨_, q⟩
  have q : isDigitB (hd r) = true := q
  have := alnum_facts (digit_alnum q)
  rcases hr with h | h | h
  · lia
  · exact this.2.2.2.1 h
  · rw [this.2.2.2.2.2.2.1] at h; cases h
theorem tokS_int {row : List Int} {v : Int} (h : NumS row v) : TokS "int" (.int v) .word .int row := by
  have ha : ∀ r, isAlnumB (hd (row ++ r)) = true := fun r => digit_alnum (h.dig r)
  exact .of (Or.inr (Or.inl ⟨v, rfl⟩)) (by decide +kernel) (by decide +kernel) (by have := h.len; lia) (fun r _ => ha r) (fun r _ q => (alnum_facts (ha r)).2.2.2.2.1 q.1) fun r near hr => TokR.int (cls_digit (h.dig r)) (h.num r hr)
theorem qrow (q : Int) (bs r : List Int) : (q :: (bs ++ [q]) ++ r).drop 1 = bs ++ [q] ++ r := rfl
theorem qrow_len (q : Int) (bs : List Int) : (q :: (bs ++ [q])).length = 1 + (bs.length + 1) := by simp; lia
theorem tokS_q39 {bs vs : List Int} (hb : QuB 39 bs vs) (hl : bs.length ≤ 500) (hv : ∀ v ∈ vs, 0 ≤ v ∧ v ≤ 1114111) : TokS "qname" (.str (textOf vs)) .q39 .q39 (39 :: (bs ++ [39])) := by
  have e : ∀ r, hd (39 :: (bs ++ [39]) ++ r) = 39 := fun r => (show norm 39 = 39 by decide)
  refine .of (Or.inl ⟨vs, hv, rfl⟩) (by decide +kernel) (by decide +kernel) (by rw [qrow_len]; lia) (fun r _ => e r) (fun r _ q => by rw [e] at q; exact absurd q.1 (by decide)) fun r near hr => ?_
  rw [qrow_len]
  exact TokR.qname (e r) (by rw [qrow]; exact quB_close (by decide) hb hr) hv
theorem tokS_q34 {bs vs : List Int} (hb : QuB 34 bs vs) (hl : bs.length ≤ 500) : TokS "string" (.tup (vs.map .int)) .q34 .q34 (34 :: (bs ++ [34])) := by
  have e : ∀ r, hd (34 :: (bs ++ [34]) ++ r) = 34 := fun r => (show norm 34 = 34 by decide)
  refine .of (Or.inr (Or.inr ⟨vs, rfl⟩)) (by decide +kernel) (by decide +kernel) (by rw [qrow_len]; lia) (fun r _ => e r) (fun r _ q => by rw [e] at q; exact absurd q.1 (by decide)) fun r near hr => ?_
  rw [qrow_len]
  exact TokR.string (e r) (by rw [qrow]; exact quB_close (by decide) hb hr)
theorem tokS_q96 {bs vs : List Int} (hb : QuB 96 bs vs) (hl : bs.length ≤ 500) : TokS "back" (.tup (vs.map .int)) .q96 .q96 (96 :: (bs ++ [96])) := by
  have e : ∀ r, hd (96 :: (bs ++ [96]) ++ r) = 96 := fun r => (show norm 96 = 96 by decide)
  refine .of (Or.inr (Or.inr ⟨vs, rfl⟩)) (by decide +kernel) (by decide +kernel) (by rw [qrow_len]; lia) (fun r _ => e r) (fun r _ q => by rw [e] at q; exact absurd q.1 (by decide)) fun r near hr => ?_
  rw [qrow_len]
  exact TokR.back (e r) (by rw [qrow]; exact quB_close (by decide) hb hr)

-- V25
theorem signs_get {w : Int} (h1 : 0 ≤ w) (h2 : w < 17) : ∃ c : Int, isSymbolB c = true ∧ (Str.ofString "+-*/\\^<>=~:.?@#&$").cps[w.toNat]? = some c.toNat := by
  have e : ∀ k : Fin 17, (match (Str.ofString "+-*/\\^<>=~:.?@#&$").cps[k.val]? with | some ch => isSymbolB (ch : Int) | none => false) = true := by decide +kernel
  have := e ⟨w.toNat, by lia⟩
  dsimp only at this
  cases hq : (Str.ofString "+-*/\\^<>=~:.?@#&$").cps[w.toNat]? with
  | none => rw [hq] at this; cases this
  | some ch => rw [hq] at this; exact ⟨ch, this, by rfl⟩
theorem signs_len : (Str.ofString "+-*/\\^<>=~:.?@#&$").length = 17 := by decide +kernel
theorem solo_len : (Str.ofString "!;").length = 2 := by decide +kernel
theorem solo_get {w : Int} (h1 : 0 ≤ w) (h2 : w < 2) : ∃ c : Int, c ∈ [(33 : Int), 59] ∧ (Str.ofString "!;").cps[w.toNat]? = some c.toNat := by
  have e : ∀ k : Fin 2, ∃ c : Int, c ∈ [(33 : Int), 59] ∧ (Str.ofString "!;").cps[k.val]? = some c.toNat := by decide +kernel
  exact e ⟨w.toNat, by lia⟩
theorem punct_len : (Str.ofString ")[]{},|").length = 7 := by decide +kernel
theorem punct_get {w : Int} (h1 : 0 ≤ w) (h2 : w < 7) : ∃ c : Int, c ∈ [(41 : Int), 91, 93, 123, 125, 44, 124] ∧ (Str.ofString ")[]{},|").cps[w.toNat]? = some c.toNat := by
  have e : ∀ k : Fin 7, ∃ c : Int, c ∈ [(41 : Int), 91, 93, 123, 125, 44, 124] ∧ (Str.ofString ")[]{},|").cps[k.val]? = some c.toNat := by decide +kernel
  exact e ⟨w.toNat, by lia⟩
theorem vars_get {w : Int} (h1 : 0 ≤ w) (h2 : w < 4) : ∃ c : Int, c ∈ [(95 : Int), 65, 90, 77] ∧ [AV.int 95, AV.int 65, AV.int 90, AV.int 77][w.toNat]? = some (.int c) :=
  get_map (f := AV.int) (l := [(95 : Int), 65, 90, 77]) (by show w.toNat < 4; lia)
theorem nat_le {l : List Int} (h : ∀ c ∈ l, 0 ≤ c ∧ c ≤ 1114111) : ∀ n ∈ l.map Int.toNat, n ≤ 1114111 := by
  intro n hn
  obtain ⟨c, hc, rfl⟩ := List.mem_map.mp hn
  have := h c hc
  lia
theorem quB_len {q : Int} (hq : q = 39 ∨ q = 34 ∨ q = 96) {bs vs : List Int} (h : QuB q bs vs) : vs.length ≤ bs.length + 1 := quR_len hq (quB_close (r := []) hq h (by show -1 ≠ q; lia))
theorem o_addS (σ : AS) (x y : Str) (Q : AV → Prop) : binS .Add σ (.str x) (.str y) Q = (x.length + y.length ≤ sizeLine ∧ Q (.str (x ++ y))) := rfl
theorem textOf_one (c : Int) : (⟨#[c.toNat]⟩ : Str) = textOf [c] := rfl
theorem textOf_len (l : List Int) : (textOf l).length = l.length := by unfold textOf Str.length; simp
theorem colon_eq : Str.ofString ":" = textOf [58] := by decide +kernel
theorem dot_eq : Str.ofString "." = textOf [46] := by decide +kernel
section
variable {n : Nat} {c0 c1 : Cell} {Q : AV → List Cell → Prop} {X : Phi → List Cell → Prop}
theorem s_ltoken (h0 : PoolOk c0) (h1 : c1.ok = true) {ws : List Int} (hw : ∀ w ∈ ws, 0 ≤ w ∧ w ≤ 10 ^ 25) (hw1 : 0 < ws.length) (hw2 : ws.length < 100)
    (k : ∀ c0' row kd v fr bk, PoolOk c0' → TokS kd v fr bk row → Q (.tup [.lst (row.map .int), .str kd, v, .str fr.s, .str bk.s]) [c0', c1]) : PhiN rowOf (n + 5) 335 [.ref 0, .lst (ws.map .int)] [c0, c1] Q X := by
  refine phi_in (r := r_law_token) w_law_token (by decide) (gc_ok h0 h1) rfl ?_
  show wpSs _ c_law_token ⟨[some (.ref 0), some (.lst (ws.map .int)), none, none, none, none, none, none, none], _⟩ _ _
  unfold c_law_token
  walk_at "vm"
  refine s_pick (b := 12) h0 h1 (by decide) (by decide) fun c0' x h0 hx hx2 => ?_
  walk_at "vm"
  have cv : ∀ {kd v fr bk row}, TokS kd v fr bk row → v.closed = true := by
    intro kd v fr bk row h
    rcases h.ok with ⟨l, _, rfl⟩ | ⟨i, rfl⟩ | ⟨l, rfl⟩
    · rfl
    · rfl
    · rw [AV.closed]; exact closedL_ints l
  by_cases x0 : x = 0
  · refine ifT (decide_eq_true x0) ?_
    walk_at "vm"
    refine s_pick (b := 26) h0 h1 (by decide) (by decide) fun c0' y h0 hy hy2 => ?_
    walk_at "vm"
    refine s_lword h0 h1 fun c0' ws h0 hl hw => ?_
    walk_at "vm"
    have ht := tokS_name (f := 97 + y) (ws := ws) (by lia) (by lia) hl hw
    refine ⟨_, ints_nat fun c hc => (word_range (by lia) hw c hc).1, nat_le (word_range (by lia) hw), by simp; lia, ?_⟩
    exact ⟨by decide, gc_ok h0 h1, k _ _ _ _ _ _ h0 ht⟩
  refine ifF (decide_eq_false x0) ?_
  walk_at "vm"
  by_cases x1 : x = 1
  · refine ifT (decide_eq_true x1) ?_
    walk_at "vm"
    refine s_pick (b := 17) h0 h1 (by decide) (by decide) fun c0' y h0 hy hy2 => ?_
    refine ⟨hy, by rw [signs_len]; lia, by lia, ?_⟩
    obtain ⟨c, hc, hce⟩ := signs_get hy hy2
    walk_at "vm"
    rw [hce]
    walk_at "vm"
    refine s_pick (b := 3) h0 h1 (by decide) (by decide) fun c0' z h0 hz hz2 => ?_
    walk_at "vm"
    refine ⟨hz, by lia, ?_⟩
    refine forGo_inv (fun j σ => ∃ (c0 : Cell) (ds : List Int) (u : Option AV), PoolOk c0 ∧ ds ≠ [] ∧ ds.length ≤ j + 1 ∧ (∀ c ∈ ds, isSymbolB c = true) ∧ σ = ⟨[some (.ref 0), some (.lst (ws.map .int)), some (.int x), none, some (.str "+-*/\\^<>=~:.?@#&$"), some (.str (textOf ds)), u, none, none], [c0, c1]⟩) _ 0 _ ⟨c0', [c], none, h0, by simp, by simp, by simpa using hc, by rw [x1]; rfl⟩ ?_ ?_
    · rintro j σ K hj ⟨c0, ds, u, h0, hd, hl, hs, rfl⟩ hK
      rw [List.length_map, List.length_range] at hj
      walk_at "vm"
      refine s_pick (b := 17) h0 h1 (by decide) (by decide) fun c0' y h0 hy hy2 => ?_
      refine ⟨hy, by rw [signs_len]; lia, by lia, ?_⟩
      obtain ⟨c, hc, hce⟩ := signs_get hy hy2
      walk_at "vm"
      rw [hce]
      repeat (first | walk_at "vm" | simp only [o_addS, textOf_one, textOf_app, textOf_len])
      refine ⟨by rw [sizeLine_val]; lia, hK _ ⟨c0', ds ++ [c], _, h0, by simp, by simp; lia, fun e he => ?_, rfl⟩⟩
      rcases List.mem_append.mp he with he | he
      · exact hs e he
      · rw [List.mem_singleton.mp he]; exact hc
    · rintro σ ⟨c0, ds, u, h0, hd, hl, hs, rfl⟩
      rw [List.length_map, List.length_range] at hl
      walk_at "vm"
      have nn : ∀ c ∈ ds, 0 ≤ c := fun c hc => (sym_range (hs c hc)).1
      have s58 : isSymbolB 58 = true := by decide +kernel
      have ht : TokS "name" (.str (textOf (58 :: ds))) .sign .sign (58 :: ds) := by
        refine tokS_sign (by simp) (by simp; lia) (fun c hc => ?_) (by simp) (by simp)
        rcases List.mem_cons.mp hc with rfl | hc
        · exact s58
        · exact hs c hc
      have nn2 : ∀ c ∈ 58 :: ds, 0 ≤ c := fun c hc => by
        rcases List.mem_cons.mp hc with rfl | hc
        · decide
        · exact nn c hc
      have e58 : Str.ofString ":" ++ textOf ds = textOf (58 :: ds) := by rw [colon_eq, textOf_app]; rfl
      have l58 : (Str.ofString ":").length + (textOf ds).length ≤ sizeLine := by rw [colon_eq, textOf_len, textOf_len, sizeLine_val]; simp; lia
      by_cases hdot : textOf ds = Str.ofString "."
      · rw [if_pos hdot]
        refine ifT (decide_eq_true hdot) ?_
        walk_at "vm"
        rw [o_addS, e58]
        refine ⟨l58, rfl, s_ords (gc_ok h0 h1) (by rw [textOf_len]; simp; lia) ?_⟩
        rw [cods_textOf nn2]
        walk_at "vm"
        exact ⟨by decide, gc_ok h0 h1, k _ _ _ _ _ _ h0 ht⟩
      rw [if_neg hdot]
      cases hst : Txt.startswith (textOf ds) (Str.ofString "/*") with
      | true =>
        walk_at "vm"
        rw [o_addS, e58]
        refine ⟨l58, rfl, s_ords (gc_ok h0 h1) (by rw [textOf_len]; simp; lia) ?_⟩
        rw [cods_textOf nn2]
        walk_at "vm"
        exact ⟨by decide, gc_ok h0 h1, k _ _ _ _ _ _ h0 ht⟩
      | false =>
        walk_at "vm"
        have ht2 := tokS_sign (ds := ds) hd (by lia) hs (fun q => hdot (by rw [q]; exact dot_eq.symm)) (fun t q => by rw [q, starts_rem] at hst; cases hst)
        refine s_ords (gc_ok h0 h1) (by rw [textOf_len]; lia) ?_
        rw [cods_textOf nn]
        walk_at "vm"
        exact ⟨by decide, gc_ok h0 h1, k _ _ _ _ _ _ h0 ht2⟩
  refine ifF (decide_eq_false x1) ?_
  walk_at "vm"
  by_cases x2 : x = 2
  · refine ifT (decide_eq_true x2) ?_
    walk_at "vm"
    refine s_pick (b := 2) h0 h1 (by decide) (by decide) fun c0' y h0 hy hy2 => ?_
    refine ⟨hy, by rw [solo_len]; lia, by lia, ?_⟩
    obtain ⟨c, hc, hce⟩ := solo_get hy hy2
    walk_at "vm"
    rw [hce]
    walk_at "vm"
    have ht := tokS_solo hc
    have hcr : 0 ≤ c := by simp at hc; lia
    refine s_ords (gc_ok h0 h1) (by rw [textOf_one, textOf_len]; simp) ?_
    rw [textOf_one, cods_textOf (by simpa using hcr)]
    walk_at "vm"
    exact ⟨by decide, gc_ok h0 h1, k _ _ _ _ _ _ h0 ht⟩
  refine ifF (decide_eq_false x2) ?_
  walk_at "vm"
  by_cases x3 : x = 3
  · refine ifT (decide_eq_true x3) ?_
    walk_at "vm"
    refine ⟨by decide, s_pick (b := 4) h0 h1 (by decide) (by decide) fun c0' y h0 hy hy2 => ?_⟩
    refine ⟨hy, by lia, ?_⟩
    obtain ⟨c, hc, hce⟩ := vars_get hy hy2
    rw [hce]
    walk_at "vm"
    have hcr : 0 ≤ c ∧ c ≤ 1114111 := by simp at hc; lia
    refine s_lword h0 h1 fun c0' ws h0 hl hw => ?_
    walk_at "vm"
    have ht := tokS_var (f := c) (ws := ws) hc hl hw
    refine ⟨_, ints_nat fun c hc => (word_range hcr hw c hc).1, nat_le (word_range hcr hw), by simp; lia, ?_⟩
    exact ⟨by decide, gc_ok h0 h1, k _ _ _ _ _ _ h0 ht⟩
  refine ifF (decide_eq_false x3) ?_
  walk_at "vm"
  by_cases x45 : x = 4 ∨ x = 5
  · rcases x45 with x4 | x4
    case' inl => rw [if_pos x4]
    case' inr => rw [if_neg (show ¬ x = 4 by lia)]
    all_goals
      refine ifT (decide_eq_true x4) ?_
      walk_at "vm"
      refine s_lnumber h0 h1 hw hw1 hw2 fun c0' row v h0 hn => ?_
      refine ⟨rfl, ?_⟩
      show wpSs _ _ ⟨[some (.ref 0), some (.lst (ws.map .int)), some (.int _), some (.lst (row.map .int)), none, none, none, some (.int v), none], [c0', c1]⟩ _ _
      walk_at "vm"
      exact ⟨by decide, gc_ok h0 h1, k _ _ _ _ _ _ h0 (tokS_int hn)⟩
  have x4 : ¬ x = 4 := fun q => x45 (Or.inl q)
  have x5 : ¬ x = 5 := fun q => x45 (Or.inr q)
  rw [if_neg x4]
  refine ifF (decide_eq_false x5) ?_
  walk_at "vm"
  by_cases x6 : x = 6
  · refine ifT (decide_eq_true x6) ?_
    walk_at "vm"
    refine s_lquoted h0 h1 (by decide) fun c0' bs vs h0 hl hv hb => ?_
    refine ⟨rfl, ?_⟩
    show wpSs _ _ ⟨[some (.ref 0), some (.lst (ws.map .int)), some (.int _), some (.lst ((39 :: (bs ++ [39])).map .int)), none, none, none, none, some (.lst (vs.map .int))], [c0', c1]⟩ _ _
    walk_at "vm"
    refine ⟨_, ints_nat fun c hc => (hv c hc).1, nat_le hv, by rw [List.length_map]; exact Nat.le_trans (quB_len (by decide) hb) (by lia), ?_⟩
    exact ⟨by decide, gc_ok h0 h1, k _ _ _ _ _ _ h0 (tokS_q39 hb hl hv)⟩
  refine ifF (decide_eq_false x6) ?_
  walk_at "vm"
  by_cases x7 : x = 7
  · refine ifT (decide_eq_true x7) ?_
    walk_at "vm"
    refine s_lquoted h0 h1 (by decide) fun c0' bs vs h0 hl hv hb => ?_
    refine ⟨rfl, ?_⟩
    show wpSs _ _ ⟨[some (.ref 0), some (.lst (ws.map .int)), some (.int _), some (.lst ((34 :: (bs ++ [34])).map .int)), none, none, none, none, some (.lst (vs.map .int))], [c0', c1]⟩ _ _
    walk_at "vm"
    exact ⟨Nat.le_trans (quB_len (by decide) hb) (by lia), by decide, gc_ok h0 h1, k _ _ _ _ _ _ h0 (tokS_q34 hb hl)⟩
  refine ifF (decide_eq_false x7) ?_
  walk_at "vm"
  by_cases x8 : x = 8
  · refine ifT (decide_eq_true x8) ?_
    walk_at "vm"
    refine s_lquoted h0 h1 (by decide) fun c0' bs vs h0 hl hv hb => ?_
    refine ⟨rfl, ?_⟩
    show wpSs _ _ ⟨[some (.ref 0), some (.lst (ws.map .int)), some (.int _), some (.lst ((96 :: (bs ++ [96])).map .int)), none, none, none, none, some (.lst (vs.map .int))], [c0', c1]⟩ _ _
    walk_at "vm"
    exact ⟨Nat.le_trans (quB_len (by decide) hb) (by lia), by decide, gc_ok h0 h1, k _ _ _ _ _ _ h0 (tokS_q96 hb hl)⟩
  refine ifF (decide_eq_false x8) ?_
  walk_at "vm"
  by_cases x9 : x = 9
  · refine ifT (decide_eq_true x9) ?_
    walk_at "vm"
    refine s_pick (b := 7) h0 h1 (by decide) (by decide) fun c0' y h0 hy hy2 => ?_
    refine ⟨hy, by rw [punct_len]; lia, by lia, ?_⟩
    obtain ⟨c, hc, hce⟩ := punct_get hy hy2
    walk_at "vm"
    rw [hce]
    walk_at "vm"
    have ht := tokS_punct hc
    have hcr : 0 ≤ c := by simp at hc; lia
    refine s_ords (gc_ok h0 h1) (by rw [textOf_one, textOf_len]; simp) ?_
    rw [textOf_one, cods_textOf (by simpa using hcr)]
    walk_at "vm"
    exact ⟨by decide, gc_ok h0 h1, k _ _ _ _ _ _ h0 ht⟩
  refine ifF (decide_eq_false x9) ?_
  walk_at "vm"
  by_cases x10 : x = 10
  · refine ifT (decide_eq_true x10) ?_
    walk_at "vm"
    exact ⟨by decide, by decide, gc_ok h0 h1, k _ [40] _ _ _ _ h0 tokS_open⟩
  refine ifF (decide_eq_false x10) ?_
  walk_at "vm"
  exact ⟨by decide, by decide, gc_ok h0 h1, k _ [46] _ _ _ _ h0 tokS_end⟩
end

-- V26
section
variable {n : Nat} {c0 c1 : Cell} {Q : AV → List Cell → Prop} {X : Phi → List Cell → Prop}
theorem s_lplace (h : gcOk [c0, c1] = true) {cs : List Int} {p : Nat} (hp : p ≤ cs.length) (hl : cs.length ≤ 50000) (k : Q (.tup [.int (placeF (cs.take p)).1, .int (placeF (cs.take p)).2]) [c0, c1]) : PhiN rowOf (n + 1) 349 [.lst (cs.map .int), .int p] [c0, c1] Q X := by
  rw [phi_iff' w_law_place (by decide) rfl]
  refine ⟨h, ?_⟩
  show wpSs _ c_law_place ⟨[some (.lst (cs.map .int)), some (.int p), none, none, none], _⟩ _ _
  unfold c_law_place
  walk_at "vc"
  refine ⟨by lia, by lia, ?_⟩
  refine forGo_inv (fun j σ => ∃ (last : Int) (y : Option AV), (j : Int) - last = (placeF (cs.take j)).2 ∧ σ = ⟨[some (.lst (cs.map .int)), some (.int p), some (.int (placeF (cs.take j)).1), some (.int last), y], [c0, c1]⟩) _ 0 _ ⟨-1, none, rfl, rfl⟩ ?_ ?_
  · rintro j σ K hj ⟨last, y, hl2, rfl⟩ hK
    rw [List.length_map, List.length_range] at hj
    have hj : j < p := by simpa using hj
    have hjc : j < cs.length := by lia
    have e : (List.map (fun k : Nat => AV.int (k : Int)) (List.range (p : Int).toNat))[j]'(by simpa using hj) = .int j := by simp
    have es := placeF_succ (cs := cs) (j := j) hjc
    rw [Nat.zero_add] at hK
    rw [Nat.zero_add] at hl2
    rw [Nat.zero_add] at *
    rw [e]
    walk_at "vc"
    refine ⟨by lia, by lia, ?_⟩
    rw [Int.toNat_natCast, List.getElem?_map, List.getElem?_eq_getElem hjc]
    walk_at "vc"
    by_cases h10 : cs[j] = 10
    · simp only [h10, if_true]
      rw [h10] at es
      refine hK _ ⟨j, some (.int j), ?_, ?_⟩
      · rw [es]; show ((j + 1 : Nat) : Int) - j = 1; lia
      · rw [es]; rfl
    · simp only [h10, if_false]
      have es2 : placeF (cs.take (j + 1)) = ((placeF (cs.take j)).1, (placeF (cs.take j)).2 + 1) := by rw [es]; unfold plStep; rw [if_neg h10]
      refine hK _ ⟨last, some (.int j), ?_, ?_⟩
      · rw [es2]; show ((j + 1 : Nat) : Int) - last = (placeF (cs.take j)).2 + 1; lia
      · rw [es2]
  · rintro σ ⟨last, y, hl2, rfl⟩
    rw [List.length_map, List.length_range, Nat.zero_add, Int.toNat_natCast] at hl2 ⊢
    walk_at "vc"
    rw [hl2]
    exact ⟨by decide, h, k⟩

noncomputable def c_pool_in : CSs := (.cons (.app 1 (.bin .Mod (.var 5) (.int 840))) (.cons (.aug 5 .FloorDiv (.int 840)) (.cons (.cif (.cmp .Eq (.var 5) (.int 0)) (.cons .brk .nil) .nil) .nil)))
noncomputable def c_pool_out : CSs := (.cons (.asg 4 (.int' (.var 3))) (.cons (.asg 2 (.bin .Mod (.bin .Add (.bin .Mult (.var 2) (.int 31)) (.var 4)) (.int 1009))) (.cons (.asg 5 (.abs (.var 4))) (.cons (.forR 6 (.int 60) (.cons (.app 1 (.bin .Mod (.var 5) (.int 840))) (.cons (.aug 5 .FloorDiv (.int 840)) (.cons (.cif (.cmp .Eq (.var 5) (.int 0)) (.cons .brk .nil) .nil) .nil)))) (.cons (.cif (.cmp .Gt (.len (.var 1)) (.int 400)) (.cons .brk .nil) .nil) .nil)))))
theorem pool_in {P' : AF → AS → Prop} {X' : Phi → AS → Prop} {v0 v2 v3 v4 : Option AV} {fs : List Int} {r : Int} {v6 : Option AV} (hr : 0 ≤ r) (hl : fs.length ≤ 400) (hf : ∀ f ∈ fs, 0 ≤ f)
    (k : ∀ (fs' : List Int) (r' : Int) (v6 : Option AV), fs'.length ≤ 460 → (∀ f ∈ fs', 0 ≤ f) → P' .next ⟨[v0, some (.ref 2), v2, v3, v4, some (.int r'), v6], [.unborn, c1, .lst (fs'.map .int)]⟩) :
    forGo (fun σ P => wpSs (PhiN rowOf n) c_pool_in σ P X') 6 P' ((List.range (60 : Int).toNat).map fun k : Nat => AV.int (k : Int)) ⟨[v0, some (.ref 2), v2, v3, v4, some (.int r), v6], [.unborn, c1, .lst (fs.map .int)]⟩ := by
  refine forGo_inv (fun j σ => ∃ (fs' : List Int) (r' : Int) (v6 : Option AV), 0 ≤ r' ∧ fs'.length ≤ 400 + j ∧ (∀ f ∈ fs', 0 ≤ f) ∧ σ = ⟨[v0, some (.ref 2), v2, v3, v4, some (.int r'), v6], [.unborn, c1, .lst (fs'.map .int)]⟩) _ 0 _ ⟨fs, r, v6, hr, hl, hf, rfl⟩ ?_ ?_
  · rintro j σ K hj ⟨fs', r', v6, hr, hl, hf, rfl⟩ hK
    rw [List.length_map, List.length_range] at hj
    have hj : j < 60 := hj
    unfold c_pool_in
    walk_at "vc"
    have q1 := Int.fmod_nonneg_of_pos r' (show (0 : Int) < 840 by decide)
    have q4 : 0 ≤ r'.fdiv 840 := Int.fdiv_nonneg hr (by lia)
    have hf2 : ∀ f ∈ fs' ++ [r'.fmod 840], 0 ≤ f := fun f hf3 => by
      rcases List.mem_append.mp hf3 with h | h
      · exact hf f h
      · rw [List.mem_singleton.mp h]; exact q1
    have e : fs'.map AV.int ++ [.int (r'.fmod 840)] = (fs' ++ [r'.fmod 840]).map .int := by simp
    rw [e]
    refine ⟨by decide, by lia, by decide, by decide, ?_⟩
    by_cases h0 : r'.fdiv 840 = 0
    · simp only [h0, if_true]
      exact k _ _ _ (by simp; lia) hf2
    · simp only [h0, if_false]
      exact hK _ ⟨_, _, _, q4, by simp; lia, hf2, rfl⟩
  · rintro σ ⟨fs', r', v6, hr, hl, hf, rfl⟩
    rw [List.length_map, List.length_range] at hl
    exact k _ _ _ (by have : (60 : Int).toNat = 60 := rfl; lia) hf
theorem pool_out {P' : AF → AS → Prop} {X' : Phi → AS → Prop} {v0 : Option AV} {ns : List Int}
    (k : ∀ (fs : List Int) (m : Int) (v3 v4 v5 v6 : Option AV), fs.length ≤ 460 → (∀ f ∈ fs, 0 ≤ f) → 0 ≤ m → m < 1009 → P' .next ⟨[v0, some (.ref 2), some (.int m), v3, v4, v5, v6], [.unborn, c1, .lst (fs.map .int)]⟩) :
    forGo (fun σ P => wpSs (PhiN rowOf n) c_pool_out σ P X') 3 P' (ns.map .int) ⟨[v0, some (.ref 2), some (.int 5), none, none, none, none], [.unborn, c1, .lst []]⟩ := by
  refine forGo_inv (fun j σ => ∃ (fs : List Int) (m : Int) (v3 v4 v5 v6 : Option AV), 0 ≤ m ∧ m < 1009 ∧ fs.length ≤ 400 ∧ (∀ f ∈ fs, 0 ≤ f) ∧ σ = ⟨[v0, some (.ref 2), some (.int m), v3, v4, v5, v6], [.unborn, c1, .lst (fs.map .int)]⟩) _ 0 _ ⟨[], 5, none, none, none, none, by decide, by decide, by simp, by simp, rfl⟩ ?_ ?_
  · rintro j σ K hj ⟨fs, m, v3, v4, v5, v6, hm, hm2, hl, hf, rfl⟩ hK
    rw [List.getElem_map]
    rw [List.length_map] at hj
    generalize ns[j] = c
    unfold c_pool_out
    walk_at "vc"
    have q1 := Int.fmod_nonneg_of_pos (m * 31 + c) (show (0 : Int) < 1009 by decide)
    have q2 := Int.fmod_lt_of_pos (m * 31 + c) (show (0 : Int) < 1009 by decide)
    refine ⟨IntMulOk.of_right (by decide +kernel), by decide, by decide, by decide, pool_in (by split <;> lia) hl hf fun fs' r' v6 hl hf => ?_⟩
    walk_at "vc"
    refine ⟨by rw [sizeLine_val]; lia, ?_⟩
    by_cases h4 : (400 : Int) < fs'.length
    · simp only [h4, if_true]
      exact k _ _ _ _ _ _ hl hf q1 q2
    · simp only [h4, if_false]
      exact hK _ ⟨_, _, _, _, _, _, q1, q2, by lia, hf, rfl⟩
  · rintro σ ⟨fs, m, v3, v4, v5, v6, hm, hm2, hl, hf, rfl⟩
    exact k _ _ _ _ _ _ (by lia) hf hm hm2
theorem s_lpool (h1 : c1.ok = true) {ns : List Int} (hn : ns.length ≤ 100) (k : ∀ c0', PoolOk c0' → Q (.ref 0) [c0', c1]) : PhiN rowOf (n + 1) 269 [.lst (ns.map .int)] [.unborn, c1] Q X := by
  rw [phi_iff' w_law_pool (by decide) rfl]
  refine ⟨by rw [gcOk_eq, h1]; rfl, ?_⟩
  show wpSs _ c_law_pool ⟨[some (.lst (ns.map .int)), none, none, none, none, none, none], _⟩ _ _
  unfold c_law_pool
  walk_at "vc"
  refine ⟨by decide, by decide, by rw [sizeLine_val]; simp only [List.length_map]; lia, ?_⟩
  show forGo _ 3 _ (List.drop 0 (List.take 40 (ns.map AV.int))) _
  rw [List.drop_zero, ← List.map_take]
  refine pool_out fun fs m v3 v4 v5 v6 hl hf hm hm2 => ?_
  walk_at "vc"
  have hp : PoolOk (poolC fs 0 m) := ⟨fs, 0, m, rfl, by lia, hf, by decide, hm, hm2⟩
  exact ⟨by decide, by decide, gc_ok hp h1, k _ hp⟩
end

-- V27
noncomputable def zed : List Int := [32, 122, 101, 100, 32, 46, 32, 121, 101, 115]
inductive FltS : List Int → Str → Int → Int → Prop
  | none : FltS [] "" 0 0
  | fatal {row : List Int} {kd : Str} {m : Nat} : kd ≠ "" → PyData.strOk kd = true → row.length ≤ 10 → SkipL row 0 → FauR row kd 0 m → FltS row kd 0 0
  | rem : FltS [47, 42, 97, 42] "unfinished_remark" 0 0
  | mid {row : List Int} {kd : Str} {d : Nat} {af : Int} : kd ≠ "" → PyData.strOk kd = true → row.length ≤ 10 → SkipL (row ++ zed) 0 → FauR (row ++ zed) kd d row.length → d ≤ 10 → (af = 1 ∨ af = 2) → FltS row kd d af
theorem plain' {q : Int} {l vs : List Int} {e : QuE} {k : Nat} (c : Int) (h0 : norm c = c) (h1 : c ≠ q) (h2 : c ≠ 10) (h3 : c ≠ 92) (h4 : isQuotableB c = true) (h : QuR q l vs e k) : QuR q (c :: l) (c :: vs) (e.sh 1) (1 + k) := by
  have e1 : hd (c :: l) = c := h0
  have := QuR.plain (q := q) (l := c :: l) (e := e) (vs := vs) (k := k) (by rw [e1]; exact h1) (by rw [e1]; rintro rfl; exact absurd h4 (by decide)) (by rw [e1]; exact h2) (by rw [e1]; exact h3) (by rw [e1]; exact h4) h
  rw [e1] at this
  exact this
theorem flt1 : FauR [39, 97, 98] "unfinished_quoted" 0 3 :=
  FauR.unf (q := 39) (l := [39, 97, 98]) (vs := [97, 98]) (k := 2) (by decide) (by decide) (plain' (q := 39) (e := .unf) (k := 1) 97 (by decide) (by decide) (by decide) (by decide) (by decide) (plain' (q := 39) (e := .unf) (k := 0) 98 (by decide) (by decide) (by decide) (by decide) (by decide) (QuR.unf (l := []) (Or.inl rfl))))
theorem flt2 : FauR [34, 97, 39, 10] "unfinished_quoted" 0 3 :=
  FauR.unf (q := 34) (l := [34, 97, 39, 10]) (vs := [97, 39]) (k := 2) (by decide) (by decide) (plain' (q := 34) (e := .unf) (k := 1) 97 (by decide) (by decide) (by decide) (by decide) (by decide) (plain' (q := 34) (e := .unf) (k := 0) 39 (by decide) (by decide) (by decide) (by decide) (by decide) (QuR.unf (l := [10]) (Or.inr (by decide)))))
theorem flt3 : FauR ([39, 97, 92, 113, 39] ++ zed) "bad_escape" 2 5 :=
  FauR.bad (q := 39) (l := [39, 97, 92, 113, 39] ++ zed) (vs := [97]) (d := 1) (k := 4) (by decide) (by decide)
    (plain' (l := [92, 113, 39] ++ zed) (e := .bad "bad_escape" 0) (k := 3) 97 (by decide) (by decide) (by decide) (by decide) (by decide)
      (QuR.badE (by decide) (by decide) (by decide +kernel) (AbR.back (k := 1) (by decide) (by decide) (AbR.last (by decide) (by decide)))))
theorem flt4 : FauR ([34, 92, 120, 52, 49, 34] ++ zed) "bad_escape" 1 6 :=
  FauR.bad (q := 34) (l := [34, 92, 120, 52, 49, 34] ++ zed) (vs := []) (d := 0) (k := 5) (by decide) (by decide)
      (QuR.badE (by decide) (by decide) (by decide +kernel) (AbR.back (k := 3) (by decide) (by decide) (AbR.one (k := 2) (by decide) (by decide) (by decide) (by decide) (AbR.one (k := 1) (by decide) (by decide) (by decide) (by decide) (AbR.last (by decide) (by decide))))))
noncomputable def others : List Int := [233, 1, 127, -5, 1114112, 5000]
theorem oth : ∀ o ∈ others, norm o ≠ -1 ∧ cls (norm o) = 10 ∧ isLayoutB (norm o) = false ∧ norm o ≠ 37 ∧ norm o ≠ 47 := by decide +kernel
theorem flt5 {o : Int} (h : o ∈ others) : FauR ([o] ++ zed) "undefined_char" 0 1 := FauR.und (l := [o] ++ zed) (oth o h).1 (oth o h).2.1
theorem flt6 : FauR ([96, 98, 5, 97, 96] ++ zed) "undefined_char" 2 5 :=
  FauR.bad (q := 96) (l := [96, 98, 5, 97, 96] ++ zed) (vs := [98]) (d := 1) (k := 4) (by decide) (by decide)
    (plain' (l := [5, 97, 96] ++ zed) (e := .bad "undefined_char" 0) (k := 3) 98 (by decide) (by decide) (by decide) (by decide) (by decide)
      (QuR.und (by decide) (by decide) (by decide) (by decide) (by decide) (AbR.one (k := 2) (by decide) (by decide) (by decide) (by decide) (AbR.one (k := 1) (by decide) (by decide) (by decide) (by decide) (AbR.last (by decide) (by decide))))))
theorem flt8 : FauR ([49, 50, 46, 53] ++ zed) "bad_number" 0 4 :=
  FauR.num (l := [49, 50, 46, 53] ++ zed) (by decide +kernel) (by decide) (by decide) (by decide)
theorem flt9 : FauR ([48, 39, 39] ++ zed) "bad_number" 0 3 :=
  FauR.chr (l := [48, 39, 39] ++ zed) (by decide) (by decide) (by decide) (by decide)
theorem skip0 {c : Int} {l : List Int} (h : isLayoutB (norm c) = false ∧ norm c ≠ 37 ∧ norm c ≠ 47) : SkipL (c :: l) 0 := .stop (l := c :: l) h.1 h.2.1 fun q => h.2.2 q.1
section
variable {n : Nat} {c0 c1 : Cell} {Q : AV → List Cell → Prop} {X : Phi → List Cell → Prop}
theorem s_lfaults (h0 : PoolOk c0) (h1 : c1.ok = true) (k : ∀ c0' row kd wi af, PoolOk c0' → FltS row kd wi af → Q (.tup [.lst (row.map .int), .str kd, .int wi, .int af]) [c0', c1]) : PhiN rowOf (n + 2) 356 [.ref 0] [c0, c1] Q X := by
  rw [phi_iff' w_law_faults (by decide) rfl]
  refine ⟨gc_ok h0 h1, ?_⟩
  show wpSs _ c_law_faults ⟨[some (.ref 0), none], _⟩ _ _
  unfold c_law_faults
  walk_at "vc"
  refine ⟨by decide, s_pick (b := 6) h0 h1 (by decide) (by decide) fun c0' y h0 hy hy2 => ?_⟩
  refine ⟨hy, by lia, ?_⟩
  obtain ⟨o, ho, hoe⟩ : ∃ o ∈ others, [AV.int 233, AV.int 1, AV.int 127, AV.int (-5), AV.int 1114112, AV.int 5000][y.toNat]? = some (.int o) :=
    get_map (f := AV.int) (l := others) (by show y.toNat < 6; lia)
  rw [hoe]
  walk_at "vc"
  refine ⟨by decide, by decide, by decide, by decide, by decide, by decide, by decide, by decide, by decide, by decide, by decide, by decide, by decide, by decide, by decide, by decide, by decide, by decide, by decide, by decide, by decide, ?_⟩
  refine s_pick (b := 10) h0 h1 (by decide) (by decide) fun c0' w h0 hw hw2 => ?_
  refine ⟨hw, by lia, ?_⟩
  have fin : ∀ {row kd wi af}, FltS row kd wi af → (AV.tup [.lst (row.map .int), .str kd, .int wi, .int af]).closed = true ∧ gcOk [c0', c1] = true ∧ Q (.tup [.lst (row.map .int), .str kd, .int wi, .int af]) [c0', c1] := fun h =>
    ⟨by rw [AV.closed, AV.closedL, closed_ints]; rfl, gc_ok h0 h1, k _ _ _ _ _ h0 h⟩
  have f0 : ∀ {row kd}, FltS row kd 0 0 → FltS row kd 0 0 := id
  have hw3 : w.toNat < 10 := by lia
  generalize w.toNat = z at hw3
  match z, hw3 with
  | 0, _ => exact fin .none
  | 1, _ => exact fin (.fatal (row := [39, 97, 98]) (by decide +kernel) (by decide +kernel) (by decide) (skip0 (by decide)) flt1)
  | 2, _ => exact fin (.fatal (row := [34, 97, 39, 10]) (by decide +kernel) (by decide +kernel) (by decide) (skip0 (by decide)) flt2)
  | 3, _ => exact fin (.mid (row := [39, 97, 92, 113, 39]) (d := 2) (by decide +kernel) (by decide +kernel) (by decide) (skip0 (by decide)) flt3 (by decide) (Or.inr rfl))
  | 4, _ => exact fin (.mid (row := [34, 92, 120, 52, 49, 34]) (d := 1) (by decide +kernel) (by decide +kernel) (by decide) (skip0 (by decide)) flt4 (by decide) (Or.inr rfl))
  | 5, _ => exact fin (.mid (row := [o]) (d := 0) (by decide +kernel) (by decide +kernel) (by simp) (skip0 (oth o ho).2.2) (flt5 ho) (by decide) (Or.inr rfl))
  | 6, _ => exact fin (.mid (row := [96, 98, 5, 97, 96]) (d := 2) (by decide +kernel) (by decide +kernel) (by decide) (skip0 (by decide)) flt6 (by decide) (Or.inr rfl))
  | 7, _ => exact fin .rem
  | 8, _ => exact fin (.mid (row := [49, 50, 46, 53]) (d := 0) (by decide +kernel) (by decide +kernel) (by decide) (skip0 (by decide)) flt8 (by decide) (Or.inl rfl))
  | 9, _ => exact fin (.mid (row := [48, 39, 39]) (d := 0) (by decide +kernel) (by decide +kernel) (by decide) (skip0 (by decide)) flt9 (by decide) (Or.inl rfl))
end

-- V28
inductive TokSeq (cs : List Int) : Nat → List (Str × AV × Nat) → Nat → Prop
  | nil {p : Nat} : TokSeq cs p [] p
  | cons {p k q m e : Nat} {kd : Str} {v : AV} {rest : List (Str × AV × Nat)} : p ≤ cs.length → SkipL (cs.drop p) k → q = p + k → q ≤ cs.length → TokR (k = 0 ∧ (q : Int) ≠ 0) (cs.drop q) kd v m → TokSeq cs (q + m) rest e → TokSeq cs p ((kd, v, q) :: rest) e
theorem TokSeq.snoc {cs : List Int} {p e k q m : Nat} {kd : Str} {v : AV} {due : List (Str × AV × Nat)} (h : TokSeq cs p due e) (h1 : e ≤ cs.length) (h2 : SkipL (cs.drop e) k) (h3 : q = e + k) (h4 : q ≤ cs.length) (h5 : TokR (k = 0 ∧ (q : Int) ≠ 0) (cs.drop q) kd v m) :
    TokSeq cs p (due ++ [(kd, v, q)]) (q + m) := by
  induction h with
  | nil => exact .cons h1 h2 h3 h4 h5 .nil
  | cons a b c d f _ ih => exact .cons a b c d f (ih h1 h2 h3)
theorem drop_at (a b : List Int) : (a ++ b).drop a.length = b := List.drop_left
noncomputable def kindAt (kd : Str) (gap : List Int) (n : Nat) : Str := if kd = "open" ∧ gap = [] ∧ 0 < n then "open_ct" else kd
/-- one more item -/
theorem seq_add {cs gap row : List Int} {due : List (Str × AV × Nat)} {last bk : Bk} {fr : Fr} {kd : Str} {v : AV} (hB : ∀ r, Fol last r → TokSeq (cs ++ r) 0 due cs.length) (hg : GapS (mustB last fr) last gap) (ht : TokS kd v fr bk row) :
    ∀ r, Fol bk r → TokSeq (cs ++ gap ++ row ++ r) 0 (due ++ [(kindAt kd gap (cs ++ gap).length, v, (cs ++ gap).length)]) (cs ++ gap ++ row).length := by
  intro r hr
  have hfro := ht.fro r hr
  have hfol : Fol last (gap ++ (row ++ r)) := by
    by_cases hgn : gap = []
    · rw [hgn, List.nil_append]
      refine fol_fro hfro ?_
      cases hm : mustB last fr with
      | false => rfl
      | true => exact absurd hgn (hg.ne hm)
    · exact hg.fol hgn _
  have e1 : cs ++ gap ++ row ++ r = cs ++ (gap ++ (row ++ r)) := by simp
  have e2 : cs ++ gap ++ row ++ r = (cs ++ gap) ++ (row ++ r) := by simp
  have s0 := hB _ hfol
  rw [← e1] at s0
  have hd1 : (cs ++ gap ++ row ++ r).drop cs.length = gap ++ (row ++ r) := by rw [e1, drop_at]
  have hd2 : (cs ++ gap ++ row ++ r).drop (cs ++ gap).length = row ++ r := by rw [e2, drop_at]
  have hsk : SkipL ((cs ++ gap ++ row ++ r).drop cs.length) gap.length := by
    rw [hd1]
    exact hg.lay.ok _ 0 (fro_skip hfro (ht.skip r hr))
  have key := s0.snoc (kd := kindAt kd gap (cs ++ gap).length) (v := v) (q := (cs ++ gap).length) (m := row.length) (by simp) hsk (by rw [List.length_append]) (by simp) ?_
  · rw [List.length_append (as := cs ++ gap) (bs := row)]
    exact key
  · rw [hd2]
    unfold kindAt
    have near_iff : (gap.length = 0 ∧ (((cs ++ gap).length : Nat) : Int) ≠ 0) ↔ (gap = [] ∧ 0 < (cs ++ gap).length) := by
      constructor
      · rintro ⟨a, b⟩; exact ⟨List.length_eq_zero_iff.mp a, by lia⟩
      · rintro ⟨a, b⟩; exact ⟨by rw [a]; rfl, by lia⟩
    by_cases hn : gap = [] ∧ 0 < (cs ++ gap).length
    · have := ht.tokn r (gap.length = 0 ∧ (((cs ++ gap).length : Nat) : Int) ≠ 0) hr (near_iff.mpr hn)
      by_cases hk : kd = "open"
      · rw [if_pos ⟨hk, hn⟩]; rw [if_pos hk] at this; exact this
      · rw [if_neg fun q => hk q.1]; rw [if_neg hk] at this; exact this
    · rw [if_neg fun q => hn q.2]
      exact ht.tok r _ hr fun q => hn (near_iff.mp q)

/-! the end -/
theorem fol_nil (b : Bk) : Fol b [] := by
  cases b <;> simp only [Fol] <;> decide +kernel
theorem fol_32 (b : Bk) (l : List Int) : Fol b (32 :: l) := fol_lay (Or.inl (by show isLayoutB (norm 32) = true; decide))
theorem fol_gap {b : Bk} {must : Bool} {gap r : List Int} (hg : GapS must b gap) (hr : Fol b r) : Fol b (gap ++ r) := by
  by_cases h : gap = []
  · rw [h]; exact hr
  · exact hg.fol h r
theorem skip_nil : SkipL [] 0 := .stop (by decide) (by decide) (by decide)
/-- the end comes again and again -/
theorem end_at {cs : List Int} {p k : Nat} (h : SkipL (cs.drop p) k) (hp : p + k = cs.length) : TokR (k = 0 ∧ ((p + k : Nat) : Int) ≠ 0) (cs.drop (p + k)) "eof" (.str "") 0 := by
  rw [hp, List.drop_length]; exact .eof
theorem end_skip (cs : List Int) : SkipL (cs.drop cs.length) 0 := by rw [List.drop_length]; exact skip_nil
theorem zed_name (near : Prop) (r : List Int) : TokR near ([122, 101, 100, 32] ++ r) "name" (.str "zed") 3 := by
  have h := TokR.word (near := near) (l := [122, 101, 100, 32] ++ r) (by rw [show hd ([122, 101, 100, 32] ++ r) = norm 122 from rfl]; decide +kernel)
  have e : wordN ([122, 101, 100, 32] ++ r) = 3 := wordN_app (l := [122, 101, 100]) (r := 32 :: r) (by decide) (by show isAlnumB (norm 32) = false; decide)
  rw [e] at h
  have e2 : textOf (([122, 101, 100, 32] ++ r).take 3) = "zed" := by show textOf [122, 101, 100] = _; decide +kernel
  rw [e2] at h
  exact h
theorem zed_yes (near : Prop) : TokR near [121, 101, 115] "name" (.str "yes") 3 := by
  have h := TokR.word (near := near) (l := [121, 101, 115]) (by decide +kernel)
  have e : wordN [121, 101, 115] = 3 := by decide
  rw [e] at h
  have e2 : textOf ([(121 : Int), 101, 115].take 3) = "yes" := by decide +kernel
  rw [e2] at h
  exact h
theorem zed_end (near : Prop) (r : List Int) : TokR near (46 :: 32 :: r) "end" (.str ".") 1 := TokR.fin ⟨(show norm 46 = 46 by decide), Or.inr (Or.inr (show isLayoutB (norm 32) = true by decide))⟩
theorem skip32 {c : Int} {l : List Int} (h : isLayoutB (norm c) = false ∧ norm c ≠ 37 ∧ norm c ≠ 47) : SkipL (32 :: c :: l) 1 := SkipL.lay (l := 32 :: c :: l) (show isLayoutB (norm 32) = true by decide) (skip0 h)
section
variable {cs : List Int}
theorem zed_drop (pre : List Int) (j : Nat) : (pre ++ zed).drop (pre.length + j) = zed.drop j := by rw [← List.drop_drop, drop_at]
theorem zed_seq (pre : List Int) : TokSeq (pre ++ zed) pre.length [("name", .str "zed", pre.length + 1), ("end", .str ".", pre.length + 5), ("name", .str "yes", pre.length + 7)] (pre ++ zed).length := by
  have hl : (pre ++ zed).length = pre.length + 10 := by rw [List.length_append]; rfl
  refine .cons (k := 1) (m := 3) (by lia) ?_ rfl (by lia) ?_ (.cons (k := 1) (m := 1) (by lia) ?_ (by lia) (by lia) ?_ (.cons (k := 1) (m := 3) (by lia) ?_ (by lia) (by lia) ?_ ?_))
  · rw [drop_at]; exact skip32 (by decide)
  · rw [zed_drop]; exact zed_name _ [46, 32, 121, 101, 115]
  · rw [show pre.length + 1 + 3 = pre.length + 4 by lia, zed_drop]; exact skip32 (by decide)
  · rw [zed_drop]; exact zed_end _ [121, 101, 115]
  · rw [show pre.length + 5 + 1 = pre.length + 6 by lia, zed_drop]; exact skip32 (by decide)
  · rw [zed_drop]; exact zed_yes _
  · rw [show (pre ++ zed).length = pre.length + 7 + 3 by lia]; exact .nil
theorem zed_clause (pre : List Int) : ClR (pre ++ zed) 0 (pre.length + 6) pre.length 1 := by
  have hl : (pre ++ zed).length = pre.length + 10 := by rw [List.length_append]; rfl
  refine .step (k := 1) (m := 3) (kd := "name") (v := .str "zed") (by lia) ?_ rfl ?_ (by decide +kernel) (by decide +kernel) (.stop (k := 1) (m := 1) (q := pre.length + 5) (v := .str ".") (by lia) ?_ (by lia) ?_ (by lia))
  · rw [drop_at]; exact skip32 (by decide)
  · rw [zed_drop]; exact zed_name _ [46, 32, 121, 101, 115]
  · rw [show pre.length + 1 + 3 = pre.length + 4 by lia, zed_drop]; exact skip32 (by decide)
  · rw [zed_drop]; exact zed_end _ [121, 101, 115]
theorem zed_rest (pre : List Int) : TokSeq (pre ++ zed) (pre.length + 6) [("name", .str "yes", pre.length + 7)] (pre ++ zed).length := by
  have hl : (pre ++ zed).length = pre.length + 10 := by rw [List.length_append]; rfl
  refine .cons (k := 1) (m := 3) (by lia) ?_ (by lia) (by lia) ?_ ?_
  · rw [zed_drop]; exact skip32 (by decide)
  · rw [zed_drop]; exact zed_yes _
  · rw [show (pre ++ zed).length = pre.length + 7 + 3 by lia]; exact .nil
end

/-! what is compared -/
theorem okV_pd {v : AV} (h : OkV v) : ∃ d, v.pd = some d ∧ d.canLay0 = true ∧ d.depth ≤ 3 := by
  rcases h with ⟨l, hl, rfl⟩ | ⟨i, rfl⟩ | ⟨l, rfl⟩
  · refine ⟨.str (textOf l), rfl, ?_, Nat.zero_le _⟩
    show (textOf l).cps.all (· < 0x110000) = true
    unfold textOf
    simp
    intro c hc
    have := hl c hc
    lia
  · exact ⟨.int i, rfl, rfl, Nat.zero_le _⟩
  · refine ⟨.tuple (l.map .int), ?_, canAll_ints l, ?_⟩
    · show (AV.pdL (l.map .int)).map PyData.tuple = _
      rw [pdL_ints]; rfl
    · show PyData.depthAll (l.map .int) + 1 ≤ 3
      rw [depthAll_ints]; decide
theorem tok_pd {kd : Str} {v : AV} {q : Int} (hk : PyData.strOk kd = true) (h : OkV v) (σ : AS) : ∃ d, σ.data (.tup [.str kd, v, .int q]) = some d ∧ d.canLay0 = true ∧ d.depth ≤ 10 := by
  obtain ⟨d, h1, h2, h3⟩ := okV_pd h
  refine ⟨.tuple [.str kd, d, .int q], ?_, ?_, ?_⟩
  · show (AV.pdL [.str kd, v, .int q]).map PyData.tuple = _
    have : AV.pdL [.str kd, v, .int q] = some [.str kd, d, .int q] := by
      show (match some (PyData.str kd), AV.pdL [v, .int q] with | some d, some ds => some (d :: ds) | _, _ => none) = _
      have e : AV.pdL [v, .int q] = some [d, .int q] := by
        show (match v.pd, AV.pdL [.int q] with | some d, some ds => some (d :: ds) | _, _ => none) = _
        rw [h1]; rfl
      rw [e]
    rw [this]; rfl
  · show (PyData.strOk kd && (d.canLay0 && true)) = true
    rw [hk, h2]; rfl
  · show max 0 (max d.depth 0) + 1 ≤ 10
    lia
theorem p_neT (σ : AS) (xs ys : List AV) (Q : Bool → Prop) : cmpS .NotEq σ (.tup xs) (.tup ys) Q = eqP true (σ.data (.tup xs)) (σ.data (.tup ys)) Q := rfl
theorem p_eqT (σ : AS) (xs ys : List AV) (Q : Bool → Prop) : cmpS .Eq σ (.tup xs) (.tup ys) Q = eqP false (σ.data (.tup xs)) (σ.data (.tup ys)) Q := rfl
theorem p_eqLL (σ : AS) (xs ys : List AV) (Q : Bool → Prop) : cmpS .Eq σ (.lst xs) (.lst ys) Q = eqP false (σ.data (.lst xs)) (σ.data (.lst ys)) Q := rfl
theorem p_neS (σ : AS) (x y : Str) (Q : Bool → Prop) (hx : PyData.strOk x = true) (hy : PyData.strOk y = true) (h : Q (!decide (x = y))) : cmpS .NotEq σ (.str x) (.str y) Q := by
  show PyData.strOk x = true ∧ PyData.strOk y = true ∧ min 0 0 ≤ 10 ∧ Q (!(x == y))
  refine ⟨hx, hy, by decide, ?_⟩
  have : (x == y) = decide (x = y) := by
    by_cases he : x = y
    · rw [he]; simp
    · rw [decide_eq_false he]; exact beq_eq_false_iff_ne.mpr he
  rw [this]; exact h
theorem ne_tok {kd : Str} {v : AV} {q : Int} (hk : PyData.strOk kd = true) (h : OkV v) (σ : AS) {Q : Bool → Prop} (hq : Q false) : cmpS .NotEq σ (.tup [.str kd, v, .int q]) (.tup [.str kd, v, .int q]) Q := by
  obtain ⟨d, h1, h2, h3⟩ := tok_pd (q := q) hk h σ
  rw [p_neT, h1]
  exact eqP_self h2 h3 hq
theorem eq_tok {kd : Str} {v : AV} {q : Int} (hk : PyData.strOk kd = true) (h : OkV v) (σ : AS) {Q : Bool → Prop} (hq : Q true) : cmpS .Eq σ (.tup [.str kd, v, .int q]) (.tup [.str kd, v, .int q]) Q := by
  obtain ⟨d, h1, h2, h3⟩ := tok_pd (q := q) hk h σ
  rw [p_eqT, h1]
  exact eqP_self h2 h3 hq
theorem ne_place (a b : Int) (σ : AS) {Q : Bool → Prop} (hq : Q false) : cmpS .NotEq σ (.tup [.int a, .int b]) (.tup [.int a, .int b]) Q := by
  rw [p_neT]
  exact eqP_self (d := .tuple [.int a, .int b]) rfl (by show max 0 (max 0 0) + 1 ≤ 10; decide) hq
theorem ne_told {kd : Str} (hk : PyData.strOk kd = true) (x a b : Int) (σ : AS) {Q : Bool → Prop} (hq : Q false) : cmpS .NotEq σ (.tup [.str kd, .int x, .tup [.int a, .int b]]) (.tup [.str kd, .int x, .tup [.int a, .int b]]) Q := by
  rw [p_neT]
  exact eqP_self (d := .tuple [.str kd, .int x, .tuple [.int a, .int b]]) (by show (PyData.strOk kd && (true && ((true && (true && true)) && true))) = true; rw [hk]; rfl) (by show max 0 (max 0 (max (max 0 (max 0 0) + 1) 0)) + 1 ≤ 10; decide) hq
theorem eq_ints (l : List Int) (σ : AS) {Q : Bool → Prop} (hq : Q true) : cmpS .Eq σ (.lst (l.map .int)) (.lst (l.map .int)) Q := by
  rw [p_eqLL, data_ints]
  exact eqP_ints (by simpa using hq)

-- V29
noncomputable def m1 : CE := (.bop .Or (.cons (.cmp .Eq (.var 5) (.str "end")) (.cons (.bop .And (.cons (.cmp .In (.var 5) (.lst (.cons (.str "word") (.cons (.str "int") .nil)))) (.cons (.cmp .Eq (.var 10) (.str "word")) .nil))) .nil)))
noncomputable def m2 : CE := (.bop .Or (.cons (.var 12) (.cons (.bop .And (.cons (.cmp .Eq (.var 5) (.str "int")) (.cons (.cmp .Eq (.var 10) (.str "39")) .nil))) .nil)))
noncomputable def m3 : CE := (.bop .Or (.cons (.var 12) (.cons (.bop .And (.cons (.cmp .Eq (.var 5) (.var 10)) (.cons (.cmp .In (.var 5) (.lst (.cons (.str "sign") (.cons (.str "39") (.cons (.str "34") (.cons (.str "96") .nil)))))) .nil))) .nil)))
noncomputable def c_kind : CS := (.cif (.bop .And (.cons (.cmp .Eq (.var 8) (.str "open")) (.cons (.cmp .Eq (.var 13) (.lst .nil)) (.cons (.cmp .Gt (.var 14) (.int 0)) .nil)))) (.cons (.asg 8 (.str "open_ct")) .nil) .nil)
noncomputable def c_tok_body : CSs := (.cons (.unp [7, 8, 9, 10, 11] (.call "_law_token" 335 (.cons (.var 1) (.cons (.var 2) .nil)))) (.cons (.asg 12 m1) (.cons (.asg 12 m2) (.cons (.asg 12 m3) (.cons (.asg 13 (.call "_law_gap" 342 (.cons (.var 1) (.cons (.var 12) (.cons (.var 5) .nil))))) (.cons (.aug 3 .Add (.var 13)) (.cons (.asg 14 (.len (.var 3))) (.cons c_kind (.cons (.app 4 (.tup (.cons (.var 8) (.cons (.var 9) (.cons (.var 14) .nil))))) (.cons (.aug 3 .Add (.var 7)) (.cons (.asg 5 (.var 11)) .nil)))))))))))
noncomputable def dueAV (t : Str × AV × Nat) : AV := .tup [.str t.1, t.2.1, .int t.2.2]
theorem bk_any1 (b : Bk) : ([("word" : Str), "int"].any (· == b.s)) = (decide (b.s = "word") || decide (b.s = "int")) := by cases b <;> decide +kernel
theorem bk_any2 (b : Bk) : ([("sign" : Str), "39", "34", "96"].any (· == b.s)) = (decide (b.s = "sign") || decide (b.s = "39") || decide (b.s = "34") || decide (b.s = "96")) := by cases b <;> decide +kernel
section
variable {Φ : Spec1} {vs : List (Option AV)} {cs : List Cell} {Q : AV → AS → Prop} {X : Phi → AS → Prop} {P : AF → AS → Prop}
theorem e_m1 {b : Bk} {f : Fr} (h5 : nth vs 5 = some (.str b.s)) (h10 : nth vs 10 = some (.str f.s))
    (h : Q (.bool (decide (b.s = "end") || ((decide (b.s = "word") || decide (b.s = "int")) && decide (f.s = "word")))) ⟨vs, cs⟩) : wpE Φ m1 ⟨vs, cs⟩ Q X := by
  refine k_bop (k_or (k_cmp (k_var h5 (k_c1 (k_str (k_ceqs ?_))))))
  cases h1 : decide (b.s = "end") with
  | true => rw [h1] at h; exact orT rfl h
  | false =>
    rw [h1] at h
    refine orF rfl (k_bl (k_bop (k_and (k_cmp (k_var h5 (k_c1 (k_lst (k_esc (k_str (k_co (k_esc (k_str (k_co (k_esn (k_co2 (k_co2 (k_ls rfl ?_)))))))))))))))))
    refine p_inS _ _ ["word", "int"] _ ?_
    rw [bk_any1]
    cases hq : (decide (b.s = Str.ofString "word") || decide (b.s = Str.ofString "int")) with
    | true => rw [hq] at h; exact anT rfl (k_bl (k_cmp (k_var h10 (k_c1 (k_str (k_ceqs h))))))
    | false => rw [hq] at h; exact anF rfl h
theorem e_m2 {b : Bk} {f : Fr} {m : Bool} (h12 : nth vs 12 = some (.bool m)) (h5 : nth vs 5 = some (.str b.s)) (h10 : nth vs 10 = some (.str f.s))
    (h : Q (.bool (m || (decide (b.s = "int") && decide (f.s = "39")))) ⟨vs, cs⟩) : wpE Φ m2 ⟨vs, cs⟩ Q X := by
  refine k_bop (k_or (k_var h12 ?_))
  cases m with
  | true => exact orT rfl h
  | false =>
    refine orF rfl (k_bl (k_bop (k_and (k_cmp (k_var h5 (k_c1 (k_str (k_ceqs ?_))))))))
    cases h1 : decide (b.s = "int") with
    | true => rw [h1] at h; exact anT rfl (k_bl (k_cmp (k_var h10 (k_c1 (k_str (k_ceqs h))))))
    | false => rw [h1] at h; exact anF rfl h
theorem e_m3 {b : Bk} {f : Fr} {m : Bool} (h12 : nth vs 12 = some (.bool m)) (h5 : nth vs 5 = some (.str b.s)) (h10 : nth vs 10 = some (.str f.s))
    (h : Q (.bool (m || (decide (b.s = f.s) && (decide (b.s = "sign") || decide (b.s = "39") || decide (b.s = "34") || decide (b.s = "96"))))) ⟨vs, cs⟩) : wpE Φ m3 ⟨vs, cs⟩ Q X := by
  refine k_bop (k_or (k_var h12 ?_))
  cases m with
  | true => exact orT rfl h
  | false =>
    refine orF rfl (k_bl (k_bop (k_and (k_cmp (k_var h5 (k_c1 (k_var h10 (k_ceqs ?_))))))))
    cases h1 : decide (b.s = f.s) with
    | true =>
      rw [h1] at h
      refine anT rfl (k_bl (k_cmp (k_var h5 (k_c1 (k_lst (k_esc (k_str (k_co (k_esc (k_str (k_co (k_esc (k_str (k_co (k_esc (k_str (k_co (k_esn (k_co2 (k_co2 (k_co2 (k_co2 (k_ls rfl ?_)))))))))))))))))))))))
      refine p_inS _ _ ["sign", "39", "34", "96"] _ ?_
      rw [bk_any2]
      exact h
    | false => rw [h1] at h; exact anF rfl h
theorem w_kind {kd : Str} {gap : List Int} {n : Nat} (h8 : nth vs 8 = some (.str kd)) (h13 : nth vs 13 = some (.lst (gap.map .int))) (h14 : nth vs 14 = some (.int n)) (he : vs.set 8 (some (.str kd)) = vs)
    (h : P .next ⟨vs.set 8 (some (.str (kindAt kd gap n))), cs⟩) : wpS Φ c_kind ⟨vs, cs⟩ P X := by
  unfold kindAt at h
  refine k_cif (k_bop (k_and (k_cmp (k_var h8 (k_c1 (k_str (k_ceqs ?_)))))))
  by_cases h1 : kd = Str.ofString "open"
  · refine anT (decide_eq_true h1) (k_and (k_cmp (k_var h13 (k_c1 (k_lst (k_esn (k_ls rfl ?_)))))))
    have e0 : ([] : List AV) = ([] : List Int).map .int := rfl
    show cmpS .Eq _ _ _ _
    rw [p_eqLL, e0, data_ints, data_ints]
    refine eqP_ints ?_
    by_cases h2 : gap = []
    · refine anT (decide_eq_true h2) (k_bl (k_cmp (k_var h14 (k_c1 (k_int (k_cgt ?_))))))
      by_cases h3 : (0 : Int) < n
      · rw [if_pos ⟨h1, h2, by lia⟩] at h
        exact ifT (decide_eq_true h3) (k_asgc (k_str (k_as h)))
      · rw [if_neg (fun q => h3 (by have := q.2.2; lia)), he] at h
        exact ifF (decide_eq_false h3) h
    · rw [if_neg (fun q => h2 q.2.1), he] at h
      exact anF (decide_eq_false h2) (ifF rfl h)
  · rw [if_neg (fun q => h1 q.1), he] at h
    exact anF (decide_eq_false h1) (ifF rfl h)
end
section
variable {n : Nat} {c0 c1 : Cell} {Q : AV → List Cell → Prop} {X : Phi → List Cell → Prop}

structure DueS (due : List (Str × AV × Nat)) (cs : List Int) (last : Bk) : Prop where
  seq : ∀ r, Fol last r → TokSeq (cs ++ r) 0 due cs.length
  ok : ∀ t ∈ due, OkV t.2.1 ∧ PyData.strOk t.1 = true ∧ t.2.2 ≤ cs.length
theorem kind_ok {kd : Str} {gap : List Int} {n : Nat} (h : PyData.strOk kd = true) : PyData.strOk (kindAt kd gap n) = true := by
  unfold kindAt; split
  · decide +kernel
  · exact h
theorem due_add {cs gap row : List Int} {due : List (Str × AV × Nat)} {last bk : Bk} {fr : Fr} {kd : Str} {v : AV} (hB : DueS due cs last) (hg : GapS (mustB last fr) last gap) (ht : TokS kd v fr bk row) :
    DueS (due ++ [(kindAt kd gap (cs ++ gap).length, v, (cs ++ gap).length)]) (cs ++ gap ++ row) bk := by
  refine ⟨seq_add hB.seq hg ht, fun t h => ?_⟩
  rcases List.mem_append.mp h with h | h
  · obtain ⟨a, b, c⟩ := hB.ok t h
    exact ⟨a, b, by simp; lia⟩
  · rw [List.mem_singleton.mp h]
    exact ⟨ht.ok, kind_ok ht.kdOk, by simp⟩
inductive LoopL (s0 : Option AV) (c1 : Cell) (ws : List Int) (j : Nat) : AS → Prop
  | mk {c0 : Cell} {cs : List Int} {due : List (Str × AV × Nat)} {last : Bk} {u6 u7 u8 u9 u10 u11 u12 u13 u14 : Option AV} : PoolOk c0 → cs.length ≤ 700 * j → (1 ≤ j → due ≠ []) → due.length ≤ j → DueS due cs last →
    LoopL s0 c1 ws j ⟨[s0, some (.ref 0), some (.lst (ws.map .int)), some (.ref 2), some (.ref 3), some (.str last.s), u6, u7, u8, u9, u10, u11, u12, u13, u14, none, none, none, none, none, none, none, none, none, none, none, none, none], [c0, c1, .lst (cs.map .int), .lst (due.map dueAV)]⟩
theorem k_un5 {P : AF → AS → Prop} {vs : List (Option AV)} {cs : List Cell} {a b c d e : Nat} {x y z w v : AV} (h : P .next ⟨((((vs.set a (some x)).set b (some y)).set c (some z)).set d (some w)).set e (some v), cs⟩) : unP [a, b, c, d, e] P (.tup [x, y, z, w, v]) ⟨vs, cs⟩ := ⟨rfl, h⟩
theorem law_loop (h0 : PoolOk c0) (h1 : c1.ok = true) {ws : List Int} (hw : ∀ w ∈ ws, 0 ≤ w ∧ w ≤ 10 ^ 25) (hw1 : 0 < ws.length) (hw2 : ws.length < 100) {s0 : Option AV} {P' : AF → AS → Prop} {X' : Phi → AS → Prop} {x : Int} (hx : 1 ≤ x) (hx2 : x ≤ 8)
    (k : ∀ (c0 : Cell) (cs : List Int) (due : List (Str × AV × Nat)) (last : Bk) (u6 u7 u8 u9 u10 u11 u12 u13 u14 : Option AV), PoolOk c0 → cs.length ≤ 8000 → due ≠ [] → due.length ≤ 8 → DueS due cs last → P' .next ⟨[s0, some (.ref 0), some (.lst (ws.map .int)), some (.ref 2), some (.ref 3), some (.str last.s), u6, u7, u8, u9, u10, u11, u12, u13, u14, none, none, none, none, none, none, none, none, none, none, none, none, none], [c0, c1, .lst (cs.map .int), .lst (due.map dueAV)]⟩) :
    forGo (fun σ P => wpSs (PhiN rowOf (n + 7)) c_tok_body σ P X') 6 P' ((List.range x.toNat).map fun k : Nat => AV.int (k : Int)) ⟨[s0, some (.ref 0), some (.lst (ws.map .int)), some (.ref 2), some (.ref 3), some (.str "none"), none, none, none, none, none, none, none, none, none, none, none, none, none, none, none, none, none, none, none, none, none, none], [c0, c1, .lst [], .lst []]⟩ := by
  refine k_forN (LoopL s0 c1 ws) (.mk (cs := []) (due := []) (last := .none) h0 (Nat.le_refl _) (fun q => by lia) (Nat.le_refl _) ⟨fun r _ => .nil, fun t ht => by cases ht⟩) ?_ ?_
  · rintro j σ K hj ⟨h0, hl, hne, hdl, hD⟩ hK
    rename_i c0 cs due last u6 u7 u8 u9 u10 u11 u12 u13 u14
    have hws : AV.closedL [.ref 0, .lst (ws.map .int)] = true := closedL1 ws
    unfold c_tok_body
    walk_at "wk"
    refine s_ltoken h0 h1 hw hw1 hw2 fun c0' row kd v fr bk h0 ht => k_reK (k_un5 (k_next ?_))
    have hrl := ht.len
    walk_at "wk"
    refine e_m1 (b := last) (f := fr) rfl rfl ?_
    walk_at "wk"
    refine e_m2 (b := last) (f := fr) rfl rfl rfl ?_
    walk_at "wk"
    refine e_m3 (b := last) (f := fr) rfl rfl rfl ?_
    walk_at "wk"
    refine s_lgap (must := mustB last fr) h0 h1 fun c0' gap h0 hg => ?_
    have hgl := hg.len
    have hlen : (cs ++ gap).length = cs.length + gap.length := List.length_append
    have hlen2 : (cs ++ gap ++ row).length = cs.length + gap.length + row.length := by rw [List.length_append, hlen]
    have hdd : (due.map dueAV).length ≤ 100000 := by rw [List.length_map]; lia
    walk_at "wk"
    refine w_kind (kd := kd) (gap := gap) (n := (cs ++ gap).length) rfl rfl rfl rfl (k_next ?_)
    walk_at "wk"
    have eC : due.map dueAV ++ [AV.tup [.str (kindAt kd gap (cs ++ gap).length), v, .int (((cs ++ gap).length : Nat) : Int)]] = (due ++ [(kindAt kd gap (cs ++ gap).length, v, (cs ++ gap).length)]).map dueAV := by
      rw [List.map_append]; rfl
    rw [eC]
    exact hK _ (.mk h0 (by lia) (fun _ => by simp) (by rw [List.length_append]; show _ + 1 ≤ _; lia) (due_add hD hg ht))
  · rintro σ ⟨h0, hl, hne, hdl, hD⟩
    exact k _ _ _ _ _ _ _ _ _ _ _ _ _ h0 (by lia) (hne (by lia)) (by lia) hD
end

-- V30
noncomputable def c_chk1 : CSs := (.cons (.cif (.bop .Or (.cons (.cmp .NotEq (.meth 23 "next" 164 .nil) (.var 24)) (.cons (.cmp .NotEq (.meth 23 "place" 150 (.cons (.sub (.var 24) (.int 2)) .nil)) (.call "_law_place" 349 (.cons (.frz 3) (.cons (.sub (.var 24) (.int 2)) .nil)))) .nil))) (.cons (.ret (.bool false)) .nil) .nil) .nil)
noncomputable def c_chk2 : CSs := (.cons (.cif (.cmp .NotEq (.meth 23 "next" 164 .nil) (.var 24)) (.cons (.ret (.bool false)) .nil) .nil) .nil)
/-- where the codes lie: still a cell, or frozen -/
noncomputable def Shp (full : List Int) (u3 : Option AV) (C2 : Cell) : Prop := (u3 = some (.ref 2) ∧ C2 = .lst (full.map .int)) ∨ (u3 = some (.lst (full.map .int)) ∧ C2 = .dead)
section
variable {n : Nat} {c0 : Cell} {full : List Int} {u0 u1 u2 u4 u5 u6 u7 u8 u9 u10 u11 u12 u13 u14 u15 u16 u17 u18 u19 u20 u21 u22 u25 u26 u27 u3 u24 : Option AV} {C2 C3 C4 : Cell} {P' : AF → AS → Prop} {X' : Phi → AS → Prop}
theorem frz_shp {Φ : Spec1} {Q : AV → AS → Prop} {X : Phi → AS → Prop} {r : List (Option AV)} {a b : Cell} {r2 : List Cell} (hs : Shp full u3 C2) (q : Q (.lst (full.map .int)) ⟨u0 :: u1 :: u2 :: some (.lst (full.map .int)) :: r, a :: b :: .dead :: r2⟩) : wpE Φ (.frz 3) ⟨u0 :: u1 :: u2 :: u3 :: r, a :: b :: C2 :: r2⟩ Q X := by
  rcases hs with ⟨rfl, rfl⟩ | ⟨rfl, rfl⟩
  · exact k_frz rfl rfl rfl q
  · exact k_frzL rfl q
theorem chk_step (h : c0.ok = true) (hf : full.length ≤ 50000) (hs : Shp full u3 C2) {p k q m : Nat} {kd : Str} {v : AV} (hp : p ≤ full.length) (h1 : SkipL (full.drop p) k) (h2 : q = p + k) (h3 : q ≤ full.length) (h4 : TokR (k = 0 ∧ (q : Int) ≠ 0) (full.drop q) kd v m)
    (hv : OkV v) (hk : PyData.strOk kd = true) {K : AS → Prop} (kk : K ⟨[u0, u1, u2, some (.lst (full.map .int)), u4, u5, u6, u7, u8, u9, u10, u11, u12, u13, u14, u15, u16, u17, u18, u19, u20, u21, u22, some (.ins 1), some (.tup [.str kd, v, .int q]), u25, u26, u27], [c0, tk full ((q + m : Nat) : Int) 0, .dead, C3, C4]⟩) :
    wpSs (PhiN rowOf (n + 7)) c_chk1 ⟨[u0, u1, u2, u3, u4, u5, u6, u7, u8, u9, u10, u11, u12, u13, u14, u15, u16, u17, u18, u19, u20, u21, u22, some (.ins 1), some (.tup [.str kd, v, .int q]), u25, u26, u27], [c0, tk full (p : Int) 0, C2, C3, C4]⟩ (loP K P') X' := by
  have hcl : AV.closedL [.lst (full.map .int), .int (q : Int)] = true := by rw [AV.closedL, AV.closed, closedL_ints]; rfl
  unfold c_chk1
  walk_at "wk"
  refine s_next h hf hp h1 h2 h4 ?_
  walk_at "wk"
  refine ne_tok hk hv _ ?_
  walk_at "wk"
  refine s_place h hf ?_
  walk_at "wk"
  refine frz_shp hs ?_
  walk_at "wk"
  refine s_lplace (gk h) h3 hf ?_
  walk_at "wk"
  refine ne_place _ _ _ ?_
  walk_at "wb"
  exact kk
theorem chk_rest (h : c0.ok = true) (hf : full.length ≤ 50000) {p e : Nat} {due : List (Str × AV × Nat)} (hT : TokSeq full p due e) (hd : ∀ t ∈ due, OkV t.2.1 ∧ PyData.strOk t.1 = true)
    (kk : ∀ u24, P' .next ⟨[u0, u1, u2, some (.lst (full.map .int)), u4, u5, u6, u7, u8, u9, u10, u11, u12, u13, u14, u15, u16, u17, u18, u19, u20, u21, u22, some (.ins 1), u24, u25, u26, u27], [c0, tk full (e : Int) 0, .dead, C3, C4]⟩) :
    ∀ u24, forGo (fun σ P => wpSs (PhiN rowOf (n + 7)) c_chk1 σ P X') 24 P' (due.map dueAV) ⟨[u0, u1, u2, some (.lst (full.map .int)), u4, u5, u6, u7, u8, u9, u10, u11, u12, u13, u14, u15, u16, u17, u18, u19, u20, u21, u22, some (.ins 1), u24, u25, u26, u27], [c0, tk full (p : Int) 0, .dead, C3, C4]⟩ := by
  induction hT with
  | nil => exact kk
  | cons a1 a2 a3 a4 a5 _ ih =>
    intro u24
    have h0 := hd _ (List.mem_cons_self ..)
    rw [List.map_cons, forGo_cons]
    exact chk_step h hf (Or.inr ⟨rfl, rfl⟩) a1 a2 a3 a4 a5 h0.1 h0.2 (ih (fun t ht => hd t (List.mem_cons_of_mem _ ht)) kk _)
theorem chk_due (h : c0.ok = true) (hf : full.length ≤ 50000) {p e : Nat} {due : List (Str × AV × Nat)} (hne : due ≠ []) (hT : TokSeq full p due e) (hd : ∀ t ∈ due, OkV t.2.1 ∧ PyData.strOk t.1 = true)
    (kk : ∀ u24, P' .next ⟨[u0, u1, u2, some (.lst (full.map .int)), u4, u5, u6, u7, u8, u9, u10, u11, u12, u13, u14, u15, u16, u17, u18, u19, u20, u21, u22, some (.ins 1), u24, u25, u26, u27], [c0, tk full (e : Int) 0, .dead, C3, C4]⟩) :
    forGo (fun σ P => wpSs (PhiN rowOf (n + 7)) c_chk1 σ P X') 24 P' (due.map dueAV) ⟨[u0, u1, u2, some (.ref 2), u4, u5, u6, u7, u8, u9, u10, u11, u12, u13, u14, u15, u16, u17, u18, u19, u20, u21, u22, some (.ins 1), u24, u25, u26, u27], [c0, tk full (p : Int) 0, .lst (full.map .int), C3, C4]⟩ := by
  cases hT with
  | nil => exact absurd rfl hne
  | cons a1 a2 a3 a4 a5 hT =>
    have h0 := hd _ (List.mem_cons_self ..)
    rw [List.map_cons, forGo_cons]
    exact chk_step h hf (Or.inl ⟨rfl, rfl⟩) a1 a2 a3 a4 a5 h0.1 h0.2 (chk_rest h hf hT (fun t ht => hd t (List.mem_cons_of_mem _ ht)) kk _)
theorem chk_beh (h : c0.ok = true) (hf : full.length ≤ 50000) {p e : Nat} {due : List (Str × AV × Nat)} (hT : TokSeq full p due e) (hd : ∀ t ∈ due, OkV t.2.1 ∧ PyData.strOk t.1 = true)
    (kk : ∀ u24, P' .next ⟨[u0, u1, u2, some (.lst (full.map .int)), u4, u5, u6, u7, u8, u9, u10, u11, u12, u13, u14, u15, u16, u17, u18, u19, u20, u21, u22, some (.ins 1), u24, u25, u26, u27], [c0, tk full (e : Int) 0, .dead, C3, C4]⟩) :
    ∀ u24, forGo (fun σ P => wpSs (PhiN rowOf (n + 7)) c_chk2 σ P X') 24 P' (due.map dueAV) ⟨[u0, u1, u2, some (.lst (full.map .int)), u4, u5, u6, u7, u8, u9, u10, u11, u12, u13, u14, u15, u16, u17, u18, u19, u20, u21, u22, some (.ins 1), u24, u25, u26, u27], [c0, tk full (p : Int) 0, .dead, C3, C4]⟩ := by
  induction hT with
  | nil => exact kk
  | cons a1 a2 a3 a4 a5 _ ih =>
    intro u24
    have h0 := hd _ (List.mem_cons_self ..)
    have ih := ih (fun t ht => hd t (List.mem_cons_of_mem _ ht)) kk
    rw [List.map_cons, forGo_cons]
    show wpSs _ c_chk2 ⟨[u0, u1, u2, some (.lst (full.map .int)), u4, u5, u6, u7, u8, u9, u10, u11, u12, u13, u14, u15, u16, u17, u18, u19, u20, u21, u22, some (.ins 1), some (.tup [_, _, _]), u25, u26, u27], _⟩ (loP _ P') X'
    unfold c_chk2
    walk_at "wk"
    refine s_next h hf a1 a2 a3 a5 ?_
    walk_at "wk"
    refine ne_tok h0.2 h0.1 _ ?_
    walk_at "wb"
    exact ih _
/-- next raises: kind, place, where the tokenizer stands then -/
noncomputable def Rz (full : List Int) (e : Nat) (kd : Str) (fa p : Nat) : Prop :=
  (∃ k q d m, SkipL (full.drop e) k ∧ q = e + k ∧ FauR (full.drop q) kd d m ∧ fa = q + d ∧ p = q + m) ∨ (∃ k, SkipLF (full.drop e) k ∧ kd = "unfinished_remark" ∧ fa = e + k ∧ p = full.length)
theorem s_next_rz {Q : AV → List Cell → Prop} {X : Phi → List Cell → Prop} (h : c0.ok = true) (hf : full.length ≤ 50000) {e fa p : Nat} {kd : Str} (he : e ≤ full.length) (hr : Rz full e kd fa p)
    (kk : X (kd, (fa : Int), (placeF (full.take fa)).1, (placeF (full.take fa)).2) [c0, tk full (p : Int) 0]) : PhiN rowOf (n + 6) 164 [.ins 1] [c0, tk full (e : Int) 0] Q X := by
  rcases hr with ⟨k, q, d, m, h1, h2, h3, rfl, rfl⟩ | ⟨k, h1, rfl, rfl, rfl⟩
  · exact s_next_fault h hf he h1 h2 h3 kk
  · exact s_next_remark h hf he h1 kk
end

-- V31
noncomputable def c_law_fin : CSs := (.cons (.asg 27 (.tup (.cons (.str "eof") (.cons (.str "") (.cons (.len (.var 3)) .nil))))) (.cons (.ret (.bop .And (.cons (.cmp .Eq (.meth 23 "next" 164 .nil) (.var 27)) (.cons (.cmp .Eq (.meth 23 "next" 164 .nil) (.var 27)) (.cons (.cmp .Eq (.var 22) (.var 3)) .nil))))) .nil))
noncomputable abbrev c_law_flt : CS := (.cif (.cmp .NotEq (.var 15) (.str "")) (.cons (.asg 25 .non) (.cons (.tryA (.cons (.asg 25 (.meth 23 "next" 164 .nil)) .nil) 26 (.cons (.asg 25 (.tup (.cons (.attr 26 .kind) (.cons (.attr 26 .at) (.cons (.tup (.cons (.attr 26 .row) (.cons (.attr 26 .column) .nil))) .nil))))) .nil)) (.cons (.cif (.cmp .NotEq (.var 25) (.tup (.cons (.var 15) (.cons (.var 19) (.cons (.call "_law_place" 349 (.cons (.frz 3) (.cons (.var 19) .nil))) .nil))))) (.cons (.ret (.bool false)) .nil) .nil) (.cons (.cif (.cmp .Eq (.var 17) (.int 0)) (.cons (.ret (.cmp .Eq (.var 22) (.var 3))) .nil) .nil) (.cons (.cif (.var 18) (.cons (.exp (.meth 23 "skip_clause" 171 .nil)) .nil) .nil) .nil))))) .nil)
noncomputable def c_law_end : CSs := (.cons (.asg 22 (.slice (.var 3) none none none none)) (.cons (.asg 23 (.newTok (.var 22))) (.cons (.forL 24 (.frz 4) c_chk1) (.cons c_law_flt (.cons (.forL 24 (.frz 20) c_chk2) c_law_fin)))))
inductive EndS (full : List Int) (e : Nat) (kd : Str) (fa : Nat) (af : Int) (sk : Bool) (beh : List (Str × AV × Nat)) : Prop
  | none {k : Nat} : kd = "" → beh = [] → SkipL (full.drop e) k → e + k = full.length → EndS full e kd fa af sk beh
  | stop {p : Nat} : kd ≠ "" → PyData.strOk kd = true → af = 0 → Rz full e kd fa p → EndS full e kd fa af sk beh
  | skip {p p2 t : Nat} : kd ≠ "" → PyData.strOk kd = true → 0 < af → sk = true → Rz full e kd fa p → ClR full 0 p2 p t → TokSeq full p2 beh full.length → EndS full e kd fa af sk beh
  | go {p : Nat} : kd ≠ "" → PyData.strOk kd = true → 0 < af → sk = false → Rz full e kd fa p → TokSeq full p beh full.length → EndS full e kd fa af sk beh
section
variable {n : Nat} {c0 : Cell} {full : List Int} {C2 C3 C4 : Cell} {Q : AV → List Cell → Prop} {X : Phi → AS → Prop}
theorem s_newTok {Q : AV → List Cell → Prop} {X : Phi → List Cell → Prop} (h : c0.ok = true) (k : Q (.ins 1) [c0, tk full 0 0]) : PhiN rowOf (n + 1) tokC [.lst (full.map .int)] [c0, .unborn] Q X := by
  refine ⟨by rw [gcOk_eq, h]; rfl, ?_⟩
  rw [if_pos rfl]
  exact k
theorem law_fin (h : c0.ok = true) (hf : full.length ≤ 50000) {p k : Nat} (hs : SkipL (full.drop p) k) (hp : p + k = full.length) {u0 u1 u2 u4 u5 u6 u7 u8 u9 u10 u11 u12 u13 u14 u15 u16 u17 u18 u19 u20 u21 u24 u25 u26 u27 : Option AV} (kQ : ∀ gc, Q (.bool true) gc) :
    wpSs (PhiN rowOf (n + 7)) c_law_fin ⟨[u0, u1, u2, some (.lst (full.map .int)), u4, u5, u6, u7, u8, u9, u10, u11, u12, u13, u14, u15, u16, u17, u18, u19, u20, u21, some (.lst (full.map .int)), some (.ins 1), u24, u25, u26, u27], [c0, tk full (p : Int) 0, C2, C3, C4]⟩ (finP Q) X := by
  have hv : OkV (.str "") := Or.inl ⟨[], by simp, congrArg AV.str (by decide +kernel)⟩
  have h2 : PyData.strOk "eof" = true := by decide +kernel
  have e1 : p + k + 0 = full.length := hp
  unfold c_law_fin
  walk_at "wk"
  refine s_next h hf (by lia) hs rfl (end_at hs hp) ?_
  rw [e1, hp]
  walk_at "wk"
  refine eq_tok h2 hv _ ?_
  walk_at "wk"
  refine s_next h hf (Nat.le_refl _) (end_skip full) rfl (end_at (end_skip full) rfl) ?_
  rw [Nat.add_zero, Nat.add_zero]
  walk_at "wk"
  refine eq_tok h2 hv _ ?_
  walk_at "wk"
  refine eq_ints _ _ ?_
  walk_at "wk"
  exact kQ _
theorem law_end (h : c0.ok = true) (hf : full.length ≤ 50000) {e fa : Nat} {due beh : List (Str × AV × Nat)} {kd : Str} {af : Int} {sk : Bool} (hne : due ≠ []) (hT : TokSeq full 0 due e) (he : e ≤ full.length) (hfa : fa ≤ full.length) (hd : ∀ t ∈ due, OkV t.2.1 ∧ PyData.strOk t.1 = true) (hb : ∀ t ∈ beh, OkV t.2.1 ∧ PyData.strOk t.1 = true)
    (hE : EndS full e kd fa af sk beh) {u0 u2 u5 u6 u7 u8 u9 u10 u11 u12 u13 u14 u16 u21 u22 u23 u24 u25 u26 u27 : Option AV} (kQ : ∀ gc, Q (.bool true) gc) :
    wpSs (PhiN rowOf (n + 7)) c_law_end ⟨[u0, some (.ref 0), u2, some (.ref 2), some (.ref 3), u5, u6, u7, u8, u9, u10, u11, u12, u13, u14, some (.str kd), u16, some (.int af), some (.bool sk), some (.int (fa : Int)), some (.ref 4), u21, u22, u23, u24, u25, u26, u27], [c0, .unborn, .lst (full.map .int), .lst (due.map dueAV), .lst (beh.map dueAV)]⟩ (finP Q) X := by
  have hk0 : PyData.strOk "" = true := by decide +kernel
  have hc1 : AV.closedL [.lst (full.map .int)] = true := closedL1 full
  unfold c_law_end
  walk_at "wk"
  refine s_newTok h ?_
  walk_at "wk"
  refine chk_due h hf hne hT hd fun u24 => k_next ?_
  have fin : ∀ (p k : Nat) (u24 u25 u26 : Option AV), TokSeq full p beh k → (∃ m, SkipL (full.drop k) m ∧ k + m = full.length) → forGo (fun σ P => wpSs (PhiN rowOf (n + 7)) c_chk2 σ P X) 24 (sqP (PhiN rowOf (n + 7)) c_law_fin (finP Q) X) (beh.map dueAV) ⟨[u0, some (.ref 0), u2, some (.lst (full.map .int)), some (.lst (due.map dueAV)), u5, u6, u7, u8, u9, u10, u11, u12, u13, u14, some (.str kd), u16, some (.int af), some (.bool sk), some (.int (fa : Int)), some (.lst (beh.map dueAV)), u21, some (.lst (full.map .int)), some (.ins 1), u24, u25, u26, u27], [c0, tk full (p : Int) 0, .dead, .dead, .dead]⟩ :=
    fun p k u24 u25 u26 h1 ⟨m, h2, h3⟩ => chk_beh h hf h1 hb (fun u24 => k_next (law_fin h hf h2 h3 kQ)) _
  have told : ∀ (p : Nat) (u24 : Option AV) (C3 : Cell), kd ≠ "" → PyData.strOk kd = true → Rz full e kd fa p →
      wpSs (PhiN rowOf (n + 7)) (.cons (.cif (.cmp .Eq (.var 17) (.int 0)) (.cons (.ret (.cmp .Eq (.var 22) (.var 3))) .nil) .nil) (.cons (.cif (.var 18) (.cons (.exp (.meth 23 "skip_clause" 171 .nil)) .nil) .nil) .nil)) ⟨[u0, some (.ref 0), u2, some (.lst (full.map .int)), some (.lst (due.map dueAV)), u5, u6, u7, u8, u9, u10, u11, u12, u13, u14, some (.str kd), u16, some (.int af), some (.bool sk), some (.int (fa : Int)), some (.ref 4), u21, some (.lst (full.map .int)), some (.ins 1), u24, some (.tup [.str kd, .int (fa : Int), .tup [.int (placeF (full.take fa)).1, .int (placeF (full.take fa)).2]]), none, u27], [c0, tk full (p : Int) 0, .dead, C3, .lst (beh.map dueAV)]⟩ (sqP (PhiN rowOf (n + 7)) (.cons (.forL 24 (.frz 20) c_chk2) c_law_fin) (finP Q) X) X →
      wpSs (PhiN rowOf (n + 7)) (.cons c_law_flt (.cons (.forL 24 (.frz 20) c_chk2) c_law_fin)) ⟨[u0, some (.ref 0), u2, some (.lst (full.map .int)), some (.lst (due.map dueAV)), u5, u6, u7, u8, u9, u10, u11, u12, u13, u14, some (.str kd), u16, some (.int af), some (.bool sk), some (.int (fa : Int)), some (.ref 4), u21, some (.lst (full.map .int)), some (.ins 1), u24, u25, u26, u27], [c0, tk full (e : Int) 0, .dead, C3, .lst (beh.map dueAV)]⟩ (finP Q) X := by
    intro p u24 C3 q1 q2 hr kk
    have hcl : AV.closedL [.lst (full.map .int), .int (fa : Int)] = true := by rw [AV.closedL, AV.closed, closedL_ints]; rfl
    walk_at "wk"
    refine p_neS _ _ _ _ q2 hk0 ?_
    refine ifT (ndT q1) ?_
    walk_at "wk"
    refine s_next_rz h hf he hr ?_
    walk_at "wk"
    refine s_lplace (gk h) hfa hf ?_
    walk_at "wk"
    refine ne_told q2 _ _ _ _ ?_
    walk_at "wb"
    exact kk
  cases hE with
  | none q1 q2 q3 q4 =>
    subst q1 q2
    walk_at "wk"
    refine p_neS _ _ _ _ hk0 hk0 ?_
    refine ifF (ndF rfl) ?_
    walk_at "wk"
    exact fin e e _ _ _ .nil ⟨_, q3, q4⟩
  | stop q1 q2 q3 q4 =>
    refine told _ _ _ q1 q2 q4 ?_
    walk_at "wk"
    refine ifT (decide_eq_true q3) ?_
    walk_at "wk"
    refine eq_ints _ _ ?_
    walk_at "wk"
    exact kQ _
  | skip q1 q2 q3 q4 q5 q6 q7 =>
    refine told _ _ _ q1 q2 q5 ?_
    have q9 : ¬ af = 0 := by lia
    walk_at "wb"
    refine s_skip_clause h hf q6 ?_
    walk_at "wk"
    exact fin _ _ _ _ _ q7 ⟨0, end_skip full, rfl⟩
  | go q1 q2 q3 q4 q5 q6 =>
    refine told _ _ _ q1 q2 q5 ?_
    have q9 : ¬ af = 0 := by lia
    walk_at "wb"
    exact fin _ _ _ _ _ q6 ⟨0, end_skip full, rfl⟩
end

-- V32
noncomputable def m_sk : CE := (.bop .Or (.cons (.cmp .Eq (.var 17) (.int 1)) (.cons (.cmp .Eq (.call "_law_pick" 276 (.cons (.var 1) (.cons (.int 2) .nil))) (.int 0)) .nil)))
noncomputable abbrev c_mid_if : CS := (.cif (.cmp .NotEq (.var 15) (.str "")) (.cons (.app 3 (.int 32)) (.cons (.asg 19 (.bin .Add (.len (.var 3)) (.var 16))) (.cons (.aug 3 .Add (.var 7)) (.cons (.cif (.cmp .Gt (.var 17) (.int 0)) (.cons (.asg 21 (.len (.var 3))) (.cons (.aug 3 .Add (.call "_law_ords" 281 (.cons (.str " zed . yes") .nil))) (.cons (.cif (.not (.var 18)) (.cons (.aug 20 .Add (.lst (.cons (.tup (.cons (.str "name") (.cons (.str "zed") (.cons (.bin .Add (.var 21) (.int 1)) .nil)))) (.cons (.tup (.cons (.str "end") (.cons (.str ".") (.cons (.bin .Add (.var 21) (.int 5)) .nil)))) .nil)))) .nil) .nil) (.cons (.app 20 (.tup (.cons (.str "name") (.cons (.str "yes") (.cons (.bin .Add (.var 21) (.int 7)) .nil))))) .nil)))) .nil) .nil)))) .nil)
noncomputable def c_law_mid : CSs := (.cons (.aug 3 .Add (.call "_law_gap" 342 (.cons (.var 1) (.cons (.bool false) (.cons (.var 5) .nil))))) (.cons (.unp [7, 15, 16, 17] (.call "_law_faults" 356 (.cons (.var 1) .nil))) (.cons (.asg 18 m_sk) (.cons (.asg 19 (.int 0)) (.cons (.asgL 20 .nil) (.cons c_mid_if c_law_end))))))
theorem rz_mid {cs g row rest : List Int} {b : Bk} {kd : Str} {d m : Nat} (hg : GapS false b g) (h1 : SkipL (row ++ rest) 0) (h2 : FauR (row ++ rest) kd d m) : Rz (cs ++ g ++ [32] ++ row ++ rest) cs.length kd ((cs ++ g ++ [32]).length + d) ((cs ++ g ++ [32]).length + m) := by
  have e1 : cs ++ g ++ [32] ++ row ++ rest = cs ++ (g ++ 32 :: (row ++ rest)) := by simp
  have e2 : cs ++ g ++ [32] ++ row ++ rest = (cs ++ g ++ [32]) ++ (row ++ rest) := by simp
  refine Or.inl ⟨g.length + (1 + 0), (cs ++ g ++ [32]).length, d, m, ?_, by simp [Nat.add_assoc], ?_, rfl, rfl⟩
  · rw [e1, drop_at]
    exact hg.lay.ok _ _ (SkipL.lay (l := 32 :: (row ++ rest)) (show isLayoutB (norm 32) = true by decide) h1)
  · rw [e2, drop_at]; exact h2
theorem rz_rem {cs g : List Int} {b : Bk} (hg : GapS false b g) : Rz (cs ++ g ++ [32] ++ [47, 42, 97, 42]) cs.length "unfinished_remark" ((cs ++ g ++ [32]).length + 0) (cs ++ g ++ [32] ++ [47, 42, 97, 42]).length := by
  have e1 : cs ++ g ++ [32] ++ [47, 42, 97, 42] = cs ++ (g ++ 32 :: [47, 42, 97, 42]) := by simp
  refine Or.inr ⟨g.length + (1 + 0), ?_, rfl, by simp [Nat.add_assoc], rfl⟩
  rw [e1, drop_at]
  exact hg.lay.bad _ _ (SkipLF.lay (l := 32 :: [47, 42, 97, 42]) (show isLayoutB (norm 32) = true by decide) (SkipLF.bad (l := [47, 42, 97, 42]) (by decide) (by decide) (by decide)))
noncomputable def beh1 (L : Nat) : List (Str × AV × Nat) := [("name", .str "yes", L + 7)]
noncomputable def beh2 (L : Nat) : List (Str × AV × Nat) := [("name", .str "zed", L + 1), ("end", .str ".", L + 5), ("name", .str "yes", L + 7)]
theorem zed_cods : cods " zed . yes" = zed := by decide +kernel
theorem okV_zed : OkV (.str "zed") ∧ OkV (.str ".") ∧ OkV (.str "yes") :=
  ⟨Or.inl ⟨[122, 101, 100], by decide, congrArg AV.str (by decide +kernel)⟩, Or.inl ⟨[46], by decide, congrArg AV.str (by decide +kernel)⟩, Or.inl ⟨[121, 101, 115], by decide, congrArg AV.str (by decide +kernel)⟩⟩
section
variable {n : Nat} {c0 c1 : Cell} {Q : AV → List Cell → Prop} {X : Phi → AS → Prop}
theorem FltS.len {row : List Int} {kd : Str} {wi af : Int} (h : FltS row kd wi af) : row.length ≤ 10 := by cases h <;> first | assumption | decide
theorem s_zed {n : Nat} {c0 c1 : Cell} {Q : AV → List Cell → Prop} {X : Phi → List Cell → Prop} (h : gcOk [c0, c1] = true) (k : Q (.lst (zed.map .int)) [c0, c1]) : PhiN rowOf (n + 1) 281 [.str " zed . yes"] [c0, c1] Q X := s_ords h (by decide +kernel) (by rw [zed_cods]; exact k)
theorem e_msk {vs : List (Option AV)} {r : List Cell} {af : Int} {Q : AV → AS → Prop} {X : Phi → AS → Prop} (h0 : PoolOk c0) (h1 : c1.ok = true) (h17 : nth vs 17 = some (.int af)) (hv1 : nth vs 1 = some (.ref 0))
    (k : ∀ (c0' : Cell) (b : Bool), PoolOk c0' → (af = 1 → b = true) → Q (.bool b) ⟨vs, c0' :: c1 :: r⟩) : wpE (PhiN rowOf (n + 7)) m_sk ⟨vs, c0 :: c1 :: r⟩ Q X := by
  refine k_bop (k_or (k_cmp (k_var h17 (k_c1 (k_int (k_ceq ?_))))))
  by_cases h : af = 1
  · exact orT (decide_eq_true h) (k _ _ h0 fun _ => rfl)
  · refine orF (decide_eq_false h) (k_bl (k_cmp (k_call (k_esc (k_var hv1 (k_co (k_esc (k_int (k_co (k_esn (k_co2 (k_co2 (k_ca rfl ?_)))))))))))))
    refine s_pick (b := 2) h0 h1 (by decide) (by decide) fun c0' x h0 hx hx2 => ?_
    exact k_reK (k_c1 (k_int (k_ceq (k _ _ h0 fun q => absurd q h))))
theorem law_mid (h0 : PoolOk c0) {ws cs : List Int} {due : List (Str × AV × Nat)} {last : Bk} {s0 u6 u7 u8 u9 u10 u11 u12 u13 u14 : Option AV} (hl : cs.length ≤ 8000) (hne : due ≠ []) (hdl : due.length ≤ 8) (hD : DueS due cs last) (kQ : ∀ gc, Q (.bool true) gc) :
    wpSs (PhiN rowOf (n + 7)) c_law_mid ⟨[s0, some (.ref 0), some (.lst (ws.map .int)), some (.ref 2), some (.ref 3), some (.str last.s), u6, u7, u8, u9, u10, u11, u12, u13, u14, none, none, none, none, none, none, none, none, none, none, none, none, none], [c0, .unborn, .lst (cs.map .int), .lst (due.map dueAV)]⟩ (finP Q) X := by
  unfold c_law_mid
  have hd2 : ∀ t ∈ due, OkV t.2.1 ∧ PyData.strOk t.1 = true := fun t ht => ⟨(hD.ok t ht).1, (hD.ok t ht).2.1⟩
  have hk0 : PyData.strOk "" = true := by decide +kernel
  walk_at "wk"
  refine s_lgap (must := false) h0 rfl fun c0 g h0 hg => ?_
  have hgl := hg.len
  have hA : (cs ++ g).length = cs.length + g.length := List.length_append
  walk_at "wk"
  refine s_lfaults h0 rfl fun c0 row kd wi af h0 hF => ?_
  walk_at "wk"
  refine e_msk (af := af) h0 rfl rfl rfl fun c0 sk h0 hsk => ?_
  walk_at "wk"
  have h0k : c0.ok = true := pool_ok h0
  have hgc : gcOk [c0, .unborn] = true := by rw [gcOk_eq, h0k]; rfl
  have hnz : ¬ (0 : Int) < 0 := by decide
  have hB : (cs ++ g ++ [32]).length = cs.length + g.length + 1 := by rw [List.length_append, hA]; rfl
  have hC : (cs ++ g ++ [32] ++ row).length = cs.length + g.length + 1 + row.length := by rw [List.length_append, hB]
  have hrl : row.length ≤ 10 := hF.len
  have seq : ∀ rest, TokSeq (cs ++ g ++ [32] ++ rest) 0 due cs.length := fun rest => by
    have := hD.seq (g ++ 32 :: rest) (fol_gap hg (fol_32 _ _))
    rw [show cs ++ g ++ [32] ++ rest = cs ++ (g ++ 32 :: rest) by simp]; exact this
  cases hF with
  | none =>
    refine p_neS _ _ _ _ hk0 hk0 ?_
    refine ifF (ndF rfl) ?_
    have hS : SkipL ((cs ++ g).drop cs.length) g.length := by
      rw [drop_at]
      have := hg.lay.ok [] 0 skip_nil
      rwa [List.append_nil] at this
    refine k_nilq (law_end (e := cs.length) (beh := []) (fa := 0) h0k (by lia) hne (hD.seq g ?_) (by lia) (Nat.zero_le _) hd2 (fun t ht => by cases ht) (.none rfl rfl hS hA.symm) kQ)
    have := fol_gap hg (fol_nil last)
    rwa [List.append_nil] at this
  | @fatal row kd m q1 q2 q3 q4 q5 =>
    refine p_neS _ _ _ _ q2 hk0 ?_
    refine ifT (ndT q1) ?_
    have hR := rz_mid (cs := cs) (g := g) (row := row) (rest := []) hg (by rw [List.append_nil]; exact q4) (by rw [List.append_nil]; exact q5)
    rw [List.append_nil] at hR
    walk_at "wb"
    refine law_end (e := cs.length) (beh := []) h0k (by lia) hne (seq _) (by lia) (by lia) hd2 (fun t ht => by cases ht) (.stop q1 q2 rfl hR) kQ
  | rem =>
    refine p_neS _ _ _ _ (by decide +kernel) hk0 ?_
    refine ifT (ndT (by decide +kernel)) ?_
    walk_at "wb"
    refine law_end (e := cs.length) (beh := []) h0k (by lia) hne (seq _) (by lia) (by lia) hd2 (fun t ht => by cases ht) (.stop (by decide +kernel) (by decide +kernel) rfl (rz_rem hg)) kQ
  | @mid row kd d af q1 q2 q3 q4 q5 hdlen q6 =>
    refine p_neS _ _ _ _ q2 hk0 ?_
    refine ifT (ndT q1) ?_
    have hR := rz_mid (cs := cs) (g := g) (row := row) (rest := zed) hg q4 q5
    rw [← List.length_append] at hR
    have haf : 0 < af := by lia
    have hz : (zed : List Int).length = 10 := rfl
    have hDl : (cs ++ g ++ [32] ++ row ++ zed).length = cs.length + g.length + 1 + row.length + 10 := by rw [List.length_append, hC, hz]
    have hS := seq (row ++ zed)
    rw [← List.append_assoc] at hS
    walk_at "wb"
    refine s_zed hgc ?_
    walk_at "wk"
    cases sk with
    | true =>
      refine ifF rfl ?_
      walk_at "wk"
      have hE : EndS (cs ++ g ++ [32] ++ row ++ zed) cs.length kd ((cs ++ g ++ [32]).length + d) af true (beh1 (cs ++ g ++ [32] ++ row).length) := .skip q1 q2 haf rfl hR (zed_clause _) (zed_rest _)
      show wpSs _ c_law_end ⟨_, [_, _, _, _, .lst ((beh1 (cs ++ g ++ [32] ++ row).length).map dueAV)]⟩ _ _
      refine law_end (e := cs.length) h0k (by lia) hne hS (by lia) (by lia) hd2 (fun t ht => by rw [List.mem_singleton.mp ht]; exact ⟨okV_zed.2.2, show PyData.strOk "name" = true by decide +kernel⟩) hE kQ
    | false =>
      refine ifT rfl ?_
      walk_at "wk"
      have hE : EndS (cs ++ g ++ [32] ++ row ++ zed) cs.length kd ((cs ++ g ++ [32]).length + d) af false (beh2 (cs ++ g ++ [32] ++ row).length) := .go q1 q2 haf rfl hR (zed_seq _)
      show wpSs _ c_law_end ⟨_, [_, _, _, _, .lst ((beh2 (cs ++ g ++ [32] ++ row).length).map dueAV)]⟩ _ _
      refine law_end (e := cs.length) h0k (by lia) hne hS (by lia) (by lia) hd2 (fun t ht => ?_) hE kQ
      simp only [beh2, List.mem_cons, List.not_mem_nil, or_false] at ht
      rcases ht with rfl | rfl | rfl
      · exact ⟨okV_zed.1, show PyData.strOk "name" = true by decide +kernel⟩
      · exact ⟨okV_zed.2.1, show PyData.strOk "end" = true by decide +kernel⟩
      · exact ⟨okV_zed.2.2, show PyData.strOk "name" = true by decide +kernel⟩
end

-- V33
noncomputable def c_law' : CSs := (.cons (.asg 1 (.call "_law_pool" 269 (.cons (.var 0) .nil))) (.cons (.asg 2 (.bin .Add (.lst (.cons (.int 0) (.cons (.int 7) (.cons (.int 255) .nil)))) (.wholes (.slice (.var 0) none (some 6) none none)))) (.cons (.asgL 3 .nil) (.cons (.asgL 4 .nil) (.cons (.asg 5 (.str "none")) (.cons (.forR 6 (.bin .Add (.int 1) (.call "_law_pick" 276 (.cons (.var 1) (.cons (.int 8) .nil)))) c_tok_body) c_law_mid))))))
theorem c_law_eq : c_law = c_law' := by rfl
section
variable {n : Nat} {Q : AV → List Cell → Prop} {X : Phi → List Cell → Prop}
theorem k_ws {Φ : Spec1} {vs : List (Option AV)} {cs : List Cell} {Q : AV → AS → Prop} {X : Phi → AS → Prop} {i : Nat} {ns : List Int} (h : nth vs i = some (.lst (ns.map .int))) (hn : ns.length ≤ 100)
    (k : Q (.lst ((ns.take 6).map fun n => .int ((if n < 0 then -n else n).fmod (10 ^ 25)))) ⟨vs, cs⟩) : wpE Φ (.wholes (.slice (.var i) none (some 6) none none)) ⟨vs, cs⟩ Q X := by
  rw [e_wholes, e_slice, e_var, ← nth_eq, h]
  refine ⟨by rw [List.length_map, sizeLine_val]; lia, ns.take 6, ?_, by rw [List.length_take]; lia, k⟩
  show List.drop 0 (List.take 6 (ns.map AV.int)) = _
  rw [List.drop_zero, List.map_take]
theorem s_law {ns : List Int} (hn : ns.length ≤ 100) (kQ : ∀ gc, Q (.bool true) gc) : PhiN rowOf (n + 8) 361 [.lst (ns.map .int)] [.unborn, .unborn] Q X := by
  refine phi_in (r := r_law) w_law (by decide) rfl rfl ?_
  show wpSs _ c_law ⟨[some (.lst (ns.map .int)), none, none, none, none, none, none, none, none, none, none, none, none, none, none, none, none, none, none, none, none, none, none, none, none, none, none, none], _⟩ _ _
  rw [c_law_eq]
  unfold c_law'
  have hcl : AV.closedL [.lst (ns.map .int)] = true := closedL1 ns
  walk_at "vk"
  refine s_lpool rfl hn fun c0 h0 => ?_
  walk_at "vk"
  refine k_ws rfl hn ?_
  refine k_addLL (by show 3 + _ ≤ _; rw [List.length_map, List.length_take]; lia) ?_
  have eW : [AV.int 0, AV.int 7, AV.int 255] ++ (ns.take 6).map (fun n => AV.int ((if n < 0 then -n else n).fmod (10 ^ 25))) = (0 :: 7 :: 255 :: (ns.take 6).map fun n : Int => (if n < 0 then -n else n).fmod (10 ^ 25)).map .int := by
    rw [List.map_cons, List.map_cons, List.map_cons, List.map_map]; rfl
  rw [eW]
  have hw : ∀ w ∈ (0 :: 7 :: 255 :: (ns.take 6).map fun n : Int => (if n < 0 then -n else n).fmod (10 ^ 25)), 0 ≤ w ∧ w ≤ 10 ^ 25 := by
    intro w hw
    simp only [List.mem_cons, List.mem_map] at hw
    rcases hw with rfl | rfl | rfl | ⟨m, _, rfl⟩
    · decide
    · decide
    · decide
    · have q1 := Int.fmod_nonneg_of_pos (if m < 0 then -m else m) (show (0 : Int) < 10 ^ 25 by decide)
      have q2 := Int.fmod_lt_of_pos (if m < 0 then -m else m) (show (0 : Int) < 10 ^ 25 by decide)
      lia
  have hl1 : 0 < (0 :: 7 :: 255 :: (ns.take 6).map fun n : Int => (if n < 0 then -n else n).fmod (10 ^ 25)).length := Nat.succ_pos _
  have hl2 : (0 :: 7 :: 255 :: (ns.take 6).map fun n : Int => (if n < 0 then -n else n).fmod (10 ^ 25)).length < 100 := by simp; lia
  generalize (0 :: 7 :: 255 :: (ns.take 6).map fun n : Int => (if n < 0 then -n else n).fmod (10 ^ 25)) = ws at hw hl1 hl2
  walk_at "vk"
  refine k_forR ?_
  walk_at "vk"
  refine s_pick (b := 8) h0 rfl (by decide) (by decide) fun c0 x h0 hx hx2 => ?_
  walk_at "vk"
  refine k_fr (by lia) (by lia) ?_
  refine law_loop h0 rfl hw hl1 hl2 (by lia) (by lia) fun c0 cs due last u6 u7 u8 u9 u10 u11 u12 u13 u14 h0 hl hne hdl hD => ?_
  exact k_next (law_mid h0 hl hne hdl hD kQ)
end

end Mine
end

-- Top1
section
open PySem PySem.W PyProof.Rows
set_option linter.unusedVariables false
set_option maxRecDepth 100000
namespace Mine
theorem rvs_ints {g : Gh} : ∀ {vs : List Value} {ns : List Int}, IntsAre vs ns → RVs g vs (ns.map .int)
  | _, _, .nil => .nil
  | _, _, .cons n t h => .cons (.int n t) (rvs_ints h)
theorem top_enter {w : World} {mg mb : Str → Option Value} {s₁ : Shared} {la : Addr} {vs : List Value} {ns : List Int} (KX : (KF w.params).In s₁.heap) (G : s₁.heap.Ns mainGlobals mg) (B : s₁.heap.Ns builtinsNs mb) (boot : ∀ x : Str, x ≠ "__name__" → mb x = bootBuiltins x) (lim : s₁.heap.NoLimit)
    (hg : s₁.gens = #[]) (hl : s₁.heap.get? la = some { cls := .type "list", data := .seq vs.toArray }) (hi : IntsAre vs ns) (hn : ns.length ≤ 100) {R : Result → Shared → Prop}
    (k : ∀ s', (∀ b o, s₁.heap.get? b = some o → s'.heap.get? b = some o) → s'.gens = #[] → s'.os = s₁.os → R (.ok (.ret (.bool true))) s') :
    codeAny (model PySem.Challenge.pw_no0167_01 w) callerA (.call (.ref 361) ⟨[.ref la], []⟩) R s₁ := by
  have hs := (phi_iff' (n := 7) (gc := [.unborn, .unborn]) w_law (by decide) rfl).mp (s_law (n := 0) (ns := ns) (Q := fun v _ => v = .bool true) (X := fun _ _ => False) hn fun _ => rfl)
  have hw := hs.2
  have hgd := o_law.good
  unfold fnGood at hgd
  simp only [Bool.and_eq_true, beq_iff_eq, Bool.not_eq_true', decide_eq_true_eq, List.all_eq_true, bne_iff_ne, ne_eq] at hgd
  obtain ⟨⟨⟨⟨⟨⟨⟨⟨g1, g2⟩, g3⟩, g4⟩, g5⟩, g6⟩, g7⟩, g8⟩, g9⟩ := hgd
  obtain ⟨b, hbody, hchk⟩ := o_law.body
  refine codeAny_call_def (fd := f_law) (body := b) (binds := [("script", .ref la)]) (by show 1 + claimMargin < recursionLimit; decide) (KX _ _ (o_law.look _)) rfl lim (codeRec_of KX (o_law.code _)) hbody (BindsTo.of_eq (b_law [.ref la] rfl)) (fun x hx => g4 x hx) (fun x hx => ?_) (fun h₀ hns kp => ?_) g2 g3 g1
  · rw [List.mem_singleton.mp hx]
    exact (g5 "script" (by decide +kernel)).1
  · have hnoL : s₁.heap.get? s₁.heap.objs.size = none := by
      cases h : s₁.heap.get? s₁.heap.objs.size with
      | none => rfl
      | some o => exact absurd (Heap.lt_size h) (Nat.lt_irrefl _)
    have ok1 : CxOk ⟨⟨w, s₁.heap, mg, mb, KX, G, B, boot, lim⟩, 7, callEnv f_law s₁.heap.objs.size 361, s₁.heap.objs.size, n_law, callerA.deeper (callEnv f_law s₁.heap.objs.size 361), [], s₁.os⟩ :=
      ⟨g1, rfl, rfl, g8, g9, Around.frames_deeper rfl, by show 1 + claimMargin + 1 + 10 * 7 + 10 < recursionLimit; decide, by show 4 + 3 + 20 * 7 + 20 < cLine; decide, g6,
        fun x hx => ⟨(g5 x hx).1, beq_eq_false_iff_ne.mpr (g5 x hx).2⟩⟩
    have hh1 : (callerA.deeper (callEnv f_law s₁.heap.objs.size 361)).handled = none := rfl
    have I1 : Inv ⟨⟨w, s₁.heap, mg, mb, KX, G, B, boot, lim⟩, 7, callEnv f_law s₁.heap.objs.size 361, s₁.heap.objs.size, n_law, callerA.deeper (callEnv f_law s₁.heap.objs.size 361), [], s₁.os⟩
        ⟨s₁.heap.get?, s₁.heap.get?, fun _ => none⟩ ⟨List.map some [AV.lst (List.map AV.int ns)] ++ List.replicate (r_law.nm.length - r_law.np) none, [.unborn, .unborn]⟩
        { heap := h₀, gens := s₁.gens, drawn := s₁.drawn, toks := s₁.toks + [((Str.ofString "script"), Value.ref la)].length, os := s₁.os } := by
      refine ⟨fun a o e => ⟨o, kp _ _ e, .inl rfl⟩, fun a o e => kp _ _ e, fun a e => e, fun a o e => e, ⟨_, hns, fun i x a hx ha => ?_⟩, hnoL, fun k C hC hlv => ?_, fun i j a Ci Cj e1 l1 _ _ _ _ => ?_, fun _ _ => rfl, fun _ _ => rfl, fun env he => (by cases he), hg, rfl, fun k a e => (by cases e), fun k a e => (by cases e)⟩
      · match i, hx, ha with
        | 0, hx, ha =>
          cases hx; cases ha
          exact ⟨.ref la, rfl, .lst (n := 0) hl (rvs_ints hi)⟩
        | i + 1, hx, ha =>
          exfalso
          rw [List.map_singleton, List.singleton_append, List.getElem?_cons_succ] at ha
          have := List.mem_of_getElem? ha
          rw [List.mem_replicate] at this
          cases this.2
      · match k, hC with
        | 0, hC => cases hC; cases hlv
        | 1, hC => cases hC; cases hlv
      · match i, e1 with
        | 0, e1 => cases e1; cases l1
        | 1, e1 => cases e1; cases l1
    refine sndSs ok1 (lev _ _ ok1 rfl hh1) hh1 r_law.cs b hchk _ _ _ hw _ _ (fun f s' => R (.ok (.ret (match f with | .ret v => v | _ => .none))) s') _ I1 (fun f af σ1 g1 s2 le1 J1 rf q => ?_) (fun e φ σ1 g1 s2 le1 J1 F hX => hX.2.elim)
    obtain ⟨_, _, q3⟩ := q
    have keep : ∀ b o, s₁.heap.get? b = some o → s2.heap.get? b = some o := fun b o hb => by
      obtain ⟨o', h1, h2⟩ := J1.kept b o (le1.K b o hb)
      rcases h2 with rfl | ⟨⟨env, he, _⟩, _⟩
      · exact h1
      · cases he
    cases af with
    | next => cases q3
    | brk => cases q3
    | ret x =>
      have q3 : x = .bool true := q3
      subst q3
      cases f with
      | ret v =>
        have rv : RV g1 v (.bool true) := rf
        cases rv
        exact k s2 keep J1.gens J1.os
      | next => cases rf
      | brk => cases rf
      | cont => cases rf
theorem walk_law {q : Program} {loose : List Str} {XP : (Str → Option Value) → Heap → Prop} {d : DefRec} {kwd : List (Str × Expr)} (hn : d.name = "law") (e : ∀ P, KA = (KF P).map (·.1)) :
    WalkO q loose XP (kHook KF KA e).says PySem.Challenge.rw_no0167_01.row.toRowW d kwd fun f vs => call f vs := by
  intro w s₀ s₁ mg mb G Y a o pm cd doc dV kV ho hd hcd hD hmg hg args vals as hpre hlay hrd hwl hlo
  have KX := kIn_of Y
  have T := G.T
  clear Y G hd hcd hD ho
  have h361 : mg "law" = some (.ref 361) := mg_of KX T.g (by kernel_rfl)
  rw [hn, h361] at hmg
  cases hmg
  wrow_args hpre hlay hrd hwl hlo
  rename_i ns hs hlay0 hL1 hr1 hl2 as4 as3 la vs as5 hL ra w1 r0 hI hr hc1 hc2
  obtain ⟨vs', hl, rfl⟩ : ∃ vs', s₁.heap.get? la = some { cls := .type "list", data := .seq (List.toArray vs') } ∧ vs' = vs := by
    cases w1 with
    | list h1 _ =>
      obtain ⟨o, h2, h3, n, h4⟩ := hL
      rw [h1] at h2; cases h2
      cases h4
      exact ⟨_, h1, rfl⟩
  refine enter_call (codeAny_mono (top_enter KX T.g T.b T.builtins T.nolimit hg hl hI (by omega) (R := GoodW PySem.Challenge.rw_no0167_01.row.claim (classAt s₀.heap) (ExcName.means s₀.heap) [ofPy (PyData.list (List.map PyData.int ns))] s₁) fun s' k1 k2 k3 => ?_) fun _ _ g => GoodW.toG g)
  exact ⟨.inl ⟨_, .bool true, [], rfl, raisesW_false (by wrow_none_raised), .bool true, by wrow_post, fun _ => ⟨List.nodup_nil, fun a h => by cases h⟩⟩, k1, k3, k2⟩
end Mine
end

theorem PySem.Challenge.cw_no0167_01_holds : PySem.Challenge.rw_no0167_01.Holds :=
  Mine.topX fun _ _ _ _ _ hn => Mine.walk_law hn Mine.kfa
