import PyProof.Rows.All
import Wide.All
import OpenK.AllK
import Wide.FinOn
import KE.KStateDown
import KE.GoesEnum
import Lean
import HandS.ForMost
import HandS.More
import HandS.Exc
import HandS.WordsExc
import HandS.Defaults
import HandS.DictComp
import HandS.IsInst
import HandS.Conv
import HandS.NoneIn
import HandS.FStr
import HandS.Wide
import HandS.Style
import HandS.SortInts
import HandS.TupAny
import HandS.Strs
import HandS.ClsMeth
import HandS.Zip
import HandS.Codes
import HandS.EndBits
import HandS.Head0
import HandS.Head1
import HandS.Head2
import HandS.HeadEnd
import HandS.HeadHook1
import HandS.HeadHook2
import HandS.HeadHook3
import PySem.Challenge.RW_sameshown_k36_whole_entries
import HandS.Walk
import KE.KUnpackStar
import KE.GoesZip
import HandS.TupMul
set_option Elab.async false
set_option linter.all false
set_option maxRecDepth 100000
set_option maxHeartbeats 0
namespace K36
open L2 PySem
open PySem.Spec PyProof.Rows

def top (i : Nat) : Stmt := PySem.Challenge.pw_sameshown_k36_whole_entries.main.body.getD i (.Pass ⟨0, 0, 0, 0⟩)
abbrev s_is_whole : Stmt := top 18
abbrev N_is_whole : List Str := ["thing", "least", "most"]
theorem sc_is_whole : FnScope N_is_whole ["thing", "least", "most"] (defScope s_is_whole) := ⟨rfl, rfl, rfl, by decide +kernel, rfl, by decide +kernel, by decide +kernel⟩
abbrev s_is_list : Stmt := top 19
abbrev N_is_list : List Str := ["thing"]
theorem sc_is_list : FnScope N_is_list ["thing"] (defScope s_is_list) := ⟨rfl, rfl, rfl, by decide +kernel, rfl, by decide +kernel, by decide +kernel⟩
abbrev s_is_side : Stmt := top 20
abbrev N_is_side : List Str := ["thing"]
theorem sc_is_side : FnScope N_is_side ["thing"] (defScope s_is_side) := ⟨rfl, rfl, rfl, by decide +kernel, rfl, by decide +kernel, by decide +kernel⟩
abbrev s_is_letter : Stmt := top 21
abbrev N_is_letter : List Str := ["thing"]
theorem sc_is_letter : FnScope N_is_letter ["thing"] (defScope s_is_letter) := ⟨rfl, rfl, rfl, by decide +kernel, rfl, by decide +kernel, by decide +kernel⟩
abbrev s_kinds_for : Stmt := top 26
abbrev N_kinds_for : List Str := ["reads"]
theorem sc_kinds_for : FnScope N_kinds_for ["reads"] (defScope s_kinds_for) := ⟨rfl, rfl, rfl, by decide +kernel, rfl, by decide +kernel, by decide +kernel⟩
abbrev s_is_rest : Stmt := top 28
abbrev N_is_rest : List Str := ["thing", "number"]
theorem sc_is_rest : FnScope N_is_rest ["thing"] (defScope s_is_rest) := ⟨rfl, rfl, rfl, by decide +kernel, rfl, by decide +kernel, by decide +kernel⟩
abbrev s_is_part : Stmt := top 29
abbrev N_is_part : List Str := ["sign", "thing", "reads"]
theorem sc_is_part : FnScope N_is_part ["sign", "thing", "reads"] (defScope s_is_part) := ⟨rfl, rfl, rfl, by decide +kernel, rfl, by decide +kernel, by decide +kernel⟩
abbrev s_is_choice : Stmt := top 30
abbrev N_is_choice : List Str := ["thing", "reads", "kind", "parts", "sign", "part"]
theorem sc_is_choice : FnScope N_is_choice ["thing", "reads"] (defScope s_is_choice) := ⟨rfl, rfl, rfl, by decide +kernel, rfl, by decide +kernel, by decide +kernel⟩
abbrev s_are_choices : Stmt := top 31
abbrev N_are_choices : List Str := ["thing", "many", "reads", "one"]
theorem sc_are_choices : FnScope N_are_choices ["thing", "many", "reads"] (defScope s_are_choices) := ⟨rfl, rfl, rfl, by decide +kernel, rfl, by decide +kernel, by decide +kernel⟩
abbrev s_first_vector : Stmt := top 32
abbrev N_first_vector : List Str := ["choice", "guess", "kind"]
theorem sc_first_vector : FnScope N_first_vector ["choice", "guess"] (defScope s_first_vector) := ⟨rfl, rfl, rfl, by decide +kernel, rfl, by decide +kernel, by decide +kernel⟩
abbrev s_middle : Stmt := top 34
abbrev N_middle : List Str := ["some", "found", "low", "high"]
theorem sc_middle : FnScope N_middle ["some"] (defScope s_middle) := ⟨rfl, rfl, rfl, by decide +kernel, rfl, by decide +kernel, by decide +kernel⟩
abbrev s_guessed_vector : Stmt := top 35
abbrev N_guessed_vector : List Str := ["vectors", "k", "across", "column", "beside", "some", "at", "vector"]
theorem sc_guessed_vector : FnScope N_guessed_vector ["vectors", "k", "across"] (defScope s_guessed_vector) := ⟨rfl, rfl, rfl, by decide +kernel, rfl, by decide +kernel, by decide +kernel⟩
abbrev s_signs_in : Stmt := top 44
abbrev N_signs_in : List Str := ["number", "found"]
theorem sc_signs_in : FnScope N_signs_in ["number"] (defScope s_signs_in) := ⟨rfl, rfl, rfl, by decide +kernel, rfl, by decide +kernel, by decide +kernel⟩
abbrev s_lower_signs : Stmt := top 45
abbrev N_lower_signs : List Str := ["number", "many", "found", "at"]
theorem sc_lower_signs : FnScope N_lower_signs ["number", "many"] (defScope s_lower_signs) := ⟨rfl, rfl, rfl, by decide +kernel, rfl, by decide +kernel, by decide +kernel⟩
abbrev s_letters_in : Stmt := top 46
abbrev N_letters_in : List Str := ["number", "many", "found", "at"]
theorem sc_letters_in : FnScope N_letters_in ["number", "many"] (defScope s_letters_in) := ⟨rfl, rfl, rfl, by decide +kernel, rfl, by decide +kernel, by decide +kernel⟩
abbrev s_need_sign : Stmt := top 48
abbrev N_need_sign : List Str := ["value"]
theorem sc_need_sign : FnScope N_need_sign ["value"] (defScope s_need_sign) := ⟨rfl, rfl, rfl, by decide +kernel, rfl, by decide +kernel, by decide +kernel⟩
abbrev s_is_unit : Stmt := top 54
abbrev N_is_unit : List Str := ["thing", "word", "tick", "step", "reads", "writes", "letters", "slot", "one"]
theorem sc_is_unit : FnScope N_is_unit ["thing"] (defScope s_is_unit) := ⟨rfl, rfl, rfl, by decide +kernel, rfl, by decide +kernel, by decide +kernel⟩
abbrev s_write_rest : Stmt := top 57
abbrev N_write_rest : List Str := ["writer", "rest", "at", "place", "number"]
theorem sc_write_rest : FnScope N_write_rest ["writer", "rest"] (defScope s_write_rest) := ⟨rfl, rfl, rfl, by decide +kernel, rfl, by decide +kernel, by decide +kernel⟩
abbrev s_write_choice : Stmt := top 58
abbrev N_write_choice : List Str := ["writer", "choice", "guess", "reads", "kinds", "kind", "parts"]
theorem sc_write_choice : FnScope N_write_choice ["writer", "choice", "guess", "reads"] (defScope s_write_choice) := ⟨rfl, rfl, rfl, by decide +kernel, rfl, by decide +kernel, by decide +kernel⟩
abbrev s_read_rest : Stmt := top 60
abbrev N_read_rest : List Str := ["reader", "found", "at", "place", "number"]
theorem sc_read_rest : FnScope N_read_rest ["reader"] (defScope s_read_rest) := ⟨rfl, rfl, rfl, by decide +kernel, rfl, by decide +kernel, by decide +kernel⟩
abbrev s_read_choice : Stmt := top 61
abbrev N_read_choice : List Str := ["reader", "guess", "reads", "kinds", "kind", "which", "vector", "other"]
theorem sc_read_choice : FnScope N_read_choice ["reader", "guess", "reads"] (defScope s_read_choice) := ⟨rfl, rfl, rfl, by decide +kernel, rfl, by decide +kernel, by decide +kernel⟩
abbrev s_need_size : Stmt := top 62
abbrev N_need_size : List Str := ["wide", "tall"]
theorem sc_need_size : FnScope N_need_size ["wide", "tall"] (defScope s_need_size) := ⟨rfl, rfl, rfl, by decide +kernel, rfl, by decide +kernel, by decide +kernel⟩
abbrev s_letters_of : Stmt := top 63
abbrev N_letters_of : List Str := ["choices", "wide", "tall", "reads", "writer", "vectors", "k", "choice", "guess"]
theorem sc_letters_of : FnScope N_letters_of ["choices", "wide", "tall", "reads"] (defScope s_letters_of) := ⟨rfl, rfl, rfl, by decide +kernel, rfl, by decide +kernel, by decide +kernel⟩
abbrev s_read_choices : Stmt := top 64
abbrev N_read_choices : List Str := ["letters", "wide", "tall", "reads", "k", "reader", "vectors", "found", "guess"]
theorem sc_read_choices : FnScope N_read_choices ["letters", "wide", "tall", "reads"] (defScope s_read_choices) := ⟨rfl, rfl, rfl, by decide +kernel, rfl, by decide +kernel, by decide +kernel⟩
abbrev s_choices_of : Stmt := top 66
abbrev N_choices_of : List Str := ["letters", "wide", "tall", "reads", "found", "wanted", "one"]
theorem sc_choices_of : FnScope N_choices_of ["letters", "wide", "tall", "reads"] (defScope s_choices_of) := ⟨rfl, rfl, rfl, by decide +kernel, rfl, by decide +kernel, by decide +kernel⟩
abbrev s_come_to : Stmt := top 70
abbrev N_come_to : List Str := ["row", "places", "held", "line", "known", "fresh", "place", "one"]
theorem sc_come_to : FnScope N_come_to ["row", "places", "held"] (defScope s_come_to) := ⟨rfl, rfl, rfl, by decide +kernel, rfl, by decide +kernel, by decide +kernel⟩
abbrev s_needed : Stmt := top 71
abbrev N_needed : List Str := ["row", "places"]
theorem sc_needed : FnScope N_needed ["row", "places"] (defScope s_needed) := ⟨rfl, rfl, rfl, by decide +kernel, rfl, by decide +kernel, by decide +kernel⟩
abbrev s_leads_ahead : Stmt := top 72
abbrev N_leads_ahead : List Str := ["row", "place", "first"]
theorem sc_leads_ahead : FnScope N_leads_ahead ["row", "place", "first"] (defScope s_leads_ahead) := ⟨rfl, rfl, rfl, by decide +kernel, rfl, by decide +kernel, by decide +kernel⟩
abbrev s_entries : Stmt := top 73
abbrev N_entries : List Str := ["row", "found", "units", "e", "unit", "later", "at", "other"]
theorem sc_entries : FnScope N_entries ["row"] (defScope s_entries) := ⟨rfl, rfl, rfl, by decide +kernel, rfl, by decide +kernel, by decide +kernel⟩
abbrev s_shown_from : Stmt := top 74
abbrev N_shown_from : List Str := ["row", "e", "at", "unit"]
theorem sc_shown_from : FnScope N_shown_from ["row", "e"] (defScope s_shown_from) := ⟨rfl, rfl, rfl, by decide +kernel, rfl, by decide +kernel, by decide +kernel⟩
abbrev s__law_state : Stmt := top 76
abbrev N__law_state : List Str := ["_law_script", "_law_k", "_law_cell", "_law_primes", "_law_found", "_law_j", "_law_prime", "_law_one"]
theorem sc__law_state : FnScope N__law_state ["_law_script", "_law_k"] (defScope s__law_state) := ⟨rfl, rfl, rfl, by decide +kernel, rfl, by decide +kernel, by decide +kernel⟩
abbrev s__law_next : Stmt := top 77
abbrev N__law_next : List Str := ["_law_state_here", "_law_many", "_law_found"]
theorem sc__law_next : FnScope N__law_next ["_law_state_here", "_law_many"] (defScope s__law_next) := ⟨rfl, rfl, rfl, by decide +kernel, rfl, by decide +kernel, by decide +kernel⟩
abbrev s__law_order : Stmt := top 78
abbrev N__law_order : List Str := ["_law_state_here", "_law_many", "_law_found", "_law_way", "_law_size", "_law_left", "_law_first", "_law_last", "_law_line", "_law_low", "_law_high", "_law_k"]
theorem sc__law_order : FnScope N__law_order ["_law_state_here", "_law_many"] (defScope s__law_order) := ⟨rfl, rfl, rfl, by decide +kernel, rfl, by decide +kernel, by decide +kernel⟩
abbrev s__law_web : Stmt := top 79
abbrev N__law_web : List Str := ["_law_state_here", "_law_most", "_law_many", "_law_first", "_law_gap", "_law_shares", "_law_laid", "_law_units", "_law_read", "_law_at", "_law_k", "_law_full", "_law_size", "_law_slots", "_law_writes", "_law_slot", "_law_one"]
theorem sc__law_web : FnScope N__law_web ["_law_state_here", "_law_most"] (defScope s__law_web) := ⟨rfl, rfl, rfl, by decide +kernel, rfl, by decide +kernel, by decide +kernel⟩
abbrev s__law_simple : Stmt := top 80
abbrev N__law_simple : List Str := ["_law_units", "_law_found", "_law_rest", "_law_tick", "_law_slots", "_law_writes", "_law_choice"]
theorem sc__law_simple : FnScope N__law_simple ["_law_units"] (defScope s__law_simple) := ⟨rfl, rfl, rfl, by decide +kernel, rfl, by decide +kernel, by decide +kernel⟩
abbrev s__law_had : Stmt := top 81
abbrev N__law_had : List Str := ["_law_web_here", "_law_first", "_law_at", "_law_found", "_law_laid", "_law_good", "_law_tick", "_law_slots", "_law_writes", "_law_slot"]
theorem sc__law_had : FnScope N__law_had ["_law_web_here", "_law_first"] (defScope s__law_had) := ⟨rfl, rfl, rfl, by decide +kernel, rfl, by decide +kernel, by decide +kernel⟩
abbrev s_law : Stmt := top 82
abbrev N_law : List Str := ["_law_script", "_law_k", "_law_state_here", "_law_firsts", "_law_start", "_law_found", "_law_web_here", "_law_read", "_law_line_of", "_law_due", "_law_had_here", "_law_later", "_law_ticks", "_law_at"]
theorem sc_law : FnScope N_law ["_law_script"] (defScope s_law) := ⟨rfl, rfl, rfl, by decide +kernel, rfl, by decide +kernel, by decide +kernel⟩
abbrev s_Coder___init__ : Stmt := inClass (top 47) 0
abbrev N_Coder___init__ : List Str := ["self"]
theorem sc_Coder___init__ : FnScope N_Coder___init__ ["self"] (defScope s_Coder___init__) := ⟨rfl, rfl, rfl, by decide +kernel, rfl, by decide +kernel, by decide +kernel⟩
abbrev s_Coder_chance_of : Stmt := inClass (top 47) 2
abbrev N_Coder_chance_of : List Str := ["self", "name"]
theorem sc_Coder_chance_of : FnScope N_Coder_chance_of ["self", "name"] (defScope s_Coder_chance_of) := ⟨rfl, rfl, rfl, by decide +kernel, rfl, by decide +kernel, by decide +kernel⟩
abbrev s_Coder_narrowed : Stmt := inClass (top 47) 3
abbrev N_Coder_narrowed : List Str := ["self", "part", "value"]
theorem sc_Coder_narrowed : FnScope N_Coder_narrowed ["self", "part", "value"] (defScope s_Coder_narrowed) := ⟨rfl, rfl, rfl, by decide +kernel, rfl, by decide +kernel, by decide +kernel⟩
abbrev s_Coder_learn : Stmt := inClass (top 47) 5
abbrev N_Coder_learn : List Str := ["self", "name", "chance", "value"]
theorem sc_Coder_learn : FnScope N_Coder_learn ["self", "name", "chance", "value"] (defScope s_Coder_learn) := ⟨rfl, rfl, rfl, by decide +kernel, rfl, by decide +kernel, by decide +kernel⟩
abbrev s_Writer_bit : Stmt := inClass (top 49) 0
abbrev N_Writer_bit : List Str := ["self", "name", "value", "chance"]
theorem sc_Writer_bit : FnScope N_Writer_bit ["self", "name", "value"] (defScope s_Writer_bit) := ⟨rfl, rfl, rfl, by decide +kernel, rfl, by decide +kernel, by decide +kernel⟩
abbrev s_Writer_even : Stmt := inClass (top 49) 1
abbrev N_Writer_even : List Str := ["self", "value"]
theorem sc_Writer_even : FnScope N_Writer_even ["self", "value"] (defScope s_Writer_even) := ⟨rfl, rfl, rfl, by decide +kernel, rfl, by decide +kernel, by decide +kernel⟩
abbrev s_Writer_number : Stmt := inClass (top 49) 2
abbrev N_Writer_number : List Str := ["self", "name", "n", "most", "many", "at", "sign"]
theorem sc_Writer_number : FnScope N_Writer_number ["self", "name", "n", "most"] (defScope s_Writer_number) := ⟨rfl, rfl, rfl, by decide +kernel, rfl, by decide +kernel, by decide +kernel⟩
abbrev s_Writer_letters : Stmt := inClass (top 49) 3
abbrev N_Writer_letters : List Str := ["self", "many", "unit"]
theorem sc_Writer_letters : FnScope N_Writer_letters ["self"] (defScope s_Writer_letters) := ⟨rfl, rfl, rfl, by decide +kernel, rfl, by decide +kernel, by decide +kernel⟩
abbrev s_Reader___init__ : Stmt := inClass (top 50) 0
abbrev N_Reader___init__ : List Str := ["self", "letters", "at"]
theorem sc_Reader___init__ : FnScope N_Reader___init__ ["self", "letters"] (defScope s_Reader___init__) := ⟨rfl, rfl, rfl, by decide +kernel, rfl, by decide +kernel, by decide +kernel⟩
abbrev s_Reader_sign_at : Stmt := inClass (top 50) 1
abbrev N_Reader_sign_at : List Str := ["self", "at"]
theorem sc_Reader_sign_at : FnScope N_Reader_sign_at ["self", "at"] (defScope s_Reader_sign_at) := ⟨rfl, rfl, rfl, by decide +kernel, rfl, by decide +kernel, by decide +kernel⟩
abbrev s_Reader_read_by : Stmt := inClass (top 50) 3
abbrev N_Reader_read_by : List Str := ["self", "chance", "part", "value"]
theorem sc_Reader_read_by : FnScope N_Reader_read_by ["self", "chance"] (defScope s_Reader_read_by) := ⟨rfl, rfl, rfl, by decide +kernel, rfl, by decide +kernel, by decide +kernel⟩
abbrev s_Reader_bit : Stmt := inClass (top 50) 4
abbrev N_Reader_bit : List Str := ["self", "name", "chance", "value"]
theorem sc_Reader_bit : FnScope N_Reader_bit ["self", "name"] (defScope s_Reader_bit) := ⟨rfl, rfl, rfl, by decide +kernel, rfl, by decide +kernel, by decide +kernel⟩
abbrev s_Reader_even : Stmt := inClass (top 50) 5
abbrev N_Reader_even : List Str := ["self"]
theorem sc_Reader_even : FnScope N_Reader_even ["self"] (defScope s_Reader_even) := ⟨rfl, rfl, rfl, by decide +kernel, rfl, by decide +kernel, by decide +kernel⟩
abbrev s_Reader_number : Stmt := inClass (top 50) 6
abbrev N_Reader_number : List Str := ["self", "name", "most", "found", "at", "greatest", "many"]
theorem sc_Reader_number : FnScope N_Reader_number ["self", "name", "most"] (defScope s_Reader_number) := ⟨rfl, rfl, rfl, by decide +kernel, rfl, by decide +kernel, by decide +kernel⟩
abbrev s_Row___init__ : Stmt := inClass (top 68) 0
abbrev N_Row___init__ : List Str := ["self", "wide", "tall", "units", "laid", "at", "unit"]
theorem sc_Row___init__ : FnScope N_Row___init__ ["self", "wide", "tall", "units"] (defScope s_Row___init__) := ⟨rfl, rfl, rfl, by decide +kernel, rfl, by decide +kernel, by decide +kernel⟩
abbrev s_Row_take : Stmt := inClass (top 68) 1
abbrev N_Row_take : List Str := ["self", "at", "unit", "laid", "word", "tick", "step", "reads", "writes", "letters", "choices", "e", "slot"]
theorem sc_Row_take : FnScope N_Row_take ["self", "at", "unit", "laid"] (defScope s_Row_take) := ⟨rfl, rfl, rfl, by decide +kernel, rfl, by decide +kernel, by decide +kernel⟩
abbrev s_Row_units : Stmt := inClass (top 68) 2
abbrev N_Row_units : List Str := ["self"]
theorem sc_Row_units : FnScope N_Row_units ["self"] (defScope s_Row_units) := ⟨rfl, rfl, rfl, by decide +kernel, rfl, by decide +kernel, by decide +kernel⟩
abbrev s_Row_reads_at : Stmt := inClass (top 68) 7
abbrev N_Row_reads_at : List Str := ["self", "at"]
theorem sc_Row_reads_at : FnScope N_Row_reads_at ["self", "at"] (defScope s_Row_reads_at) := ⟨rfl, rfl, rfl, by decide +kernel, rfl, by decide +kernel, by decide +kernel⟩

/-! ### the facts of the top -/
abbrev ga := He.ga
abbrev ma := He.ma
/-- a tuple of the written part -/
def TupK (K : PySem.W.Frag) (a : Addr) (xs : List V) : Prop := ∃ (o : Obj) (its : Array Value) (n : Nat), K.lookup a = some o ∧ o.cls = .type "tuple" ∧ o.data = .seq its n ∧ its.size ≤ sizeLine ∧ Vals xs its.toList ∧ o.dict = none
theorem TupK.seq {K : PySem.W.Frag} {a : Addr} {xs : List V} (h : TupK K a xs) (H : Hp) : SqT K H a xs := let ⟨o, its, n, h1, h2, h3, h4, h5, _⟩ := h; .inr ⟨o, its, n, h1, h2, h3, h4, h5⟩
def zeros : List V := List.replicate 16 (.int 0)
def beside : List V := [.str "flat", .str "left", .str "above", .str "slope"]
/-- a method of a class, and its def -/
def MetK (K : PySem.W.Frag) (C m qual : Str) (st : Stmt) : Prop := ∃ fd, Meth K (ga K C) m (ma K (ga K C) m) ∧ Fun K m qual st (ma K (ga K C) m) fd
structure Txt (w : World) (K : PySem.W.Frag) (mg : Str → Option Value) : Prop where
  z_int : mg "int" = none
  z_bool : mg "bool" = none
  z_str : mg "str" = none
  z_list : mg "list" = none
  z_tuple : mg "tuple" = none
  z_len : mg "len" = none
  z_abs : mg "abs" = none
  z_all : mg "all" = none
  z_any : mg "any" = none
  z_max : mg "max" = none
  z_min : mg "min" = none
  z_sorted : mg "sorted" = none
  z_isinstance : mg "isinstance" = none
  z_range : mg "range" = none
  z_enumerate : mg "enumerate" = none
  z_zip : mg "zip" = none
  c_LEAST_SIDE : ∃ t, mg "LEAST_SIDE" = some (.int 4 t)
  c_MOST_SIDE : ∃ t, mg "MOST_SIDE" = some (.int 32 t)
  c_MOST_TICK : ∃ t, mg "MOST_TICK" = some (.int 1000 t)
  c_MOST_STEP : ∃ t, mg "MOST_STEP" = some (.int 64 t)
  c_MOST_VECTOR : ∃ t, mg "MOST_VECTOR" = some (.int 32 t)
  c_MOST_REST : ∃ t, mg "MOST_REST" = some (.int 4000 t)
  c_SLOTS : ∃ t, mg "SLOTS" = some (.int 4 t)
  c_MOST_READS : ∃ t, mg "MOST_READS" = some (.int 2 t)
  c_MOST_UNITS : ∃ t, mg "MOST_UNITS" = some (.int 24 t)
  c_EVEN : ∃ t, mg "EVEN" = some (.int 1024 t)
  c_WHOLE : ∃ t, mg "WHOLE" = some (.int 2048 t)
  c_SLOW : ∃ t, mg "SLOW" = some (.int 32 t)
  c_LEAST_BREADTH : ∃ t, mg "LEAST_BREADTH" = some (.int 16777216 t)
  c_FIRST_BREADTH : ∃ t, mg "FIRST_BREADTH" = some (.int 4294967296 t)
  c_AHEAD : ∃ t, mg "AHEAD" = some (.int 4 t)
  c_MOST_NUMBER : ∃ t, mg "MOST_NUMBER" = some (.int 8190 t)
  c_NO_REST : mg "NO_REST" = some (.ref (ga K "NO_REST")) ∧ TupK K (ga K "NO_REST") zeros
  c_BESIDE : mg "BESIDE" = some (.ref (ga K "BESIDE")) ∧ TupK K (ga K "BESIDE") beside
  c_ORDER : mg "ORDER" = some (.ref (ga K "ORDER"))
  c_FORMS : mg "FORMS" = some (.ref (ga K "FORMS")) ∧ KDct K w (ga K "FORMS") "flat" (.str "s") ∧ KDct K w (ga K "FORMS") "as" (.str "r")
  f_is_whole : mg "is_whole" = some (.ref (ga K "is_whole")) ∧ ∃ fd, Fun K "is_whole" "is_whole" s_is_whole (ga K "is_whole") fd
  f_is_list : mg "is_list" = some (.ref (ga K "is_list")) ∧ ∃ fd, Fun K "is_list" "is_list" s_is_list (ga K "is_list") fd
  f_is_side : mg "is_side" = some (.ref (ga K "is_side")) ∧ ∃ fd, Fun K "is_side" "is_side" s_is_side (ga K "is_side") fd
  f_is_letter : mg "is_letter" = some (.ref (ga K "is_letter")) ∧ ∃ fd, Fun K "is_letter" "is_letter" s_is_letter (ga K "is_letter") fd
  f_kinds_for : mg "kinds_for" = some (.ref (ga K "kinds_for")) ∧ ∃ fd, Fun K "kinds_for" "kinds_for" s_kinds_for (ga K "kinds_for") fd
  f_is_rest : mg "is_rest" = some (.ref (ga K "is_rest")) ∧ ∃ fd, Fun K "is_rest" "is_rest" s_is_rest (ga K "is_rest") fd
  f_is_part : mg "is_part" = some (.ref (ga K "is_part")) ∧ ∃ fd, Fun K "is_part" "is_part" s_is_part (ga K "is_part") fd
  f_is_choice : mg "is_choice" = some (.ref (ga K "is_choice")) ∧ ∃ fd, Fun K "is_choice" "is_choice" s_is_choice (ga K "is_choice") fd
  f_are_choices : mg "are_choices" = some (.ref (ga K "are_choices")) ∧ ∃ fd, Fun K "are_choices" "are_choices" s_are_choices (ga K "are_choices") fd
  f_first_vector : mg "first_vector" = some (.ref (ga K "first_vector")) ∧ ∃ fd, Fun K "first_vector" "first_vector" s_first_vector (ga K "first_vector") fd
  f_middle : mg "middle" = some (.ref (ga K "middle")) ∧ ∃ fd, Fun K "middle" "middle" s_middle (ga K "middle") fd
  f_guessed_vector : mg "guessed_vector" = some (.ref (ga K "guessed_vector")) ∧ ∃ fd, Fun K "guessed_vector" "guessed_vector" s_guessed_vector (ga K "guessed_vector") fd
  f_signs_in : mg "signs_in" = some (.ref (ga K "signs_in")) ∧ ∃ fd, Fun K "signs_in" "signs_in" s_signs_in (ga K "signs_in") fd
  f_lower_signs : mg "lower_signs" = some (.ref (ga K "lower_signs")) ∧ ∃ fd, Fun K "lower_signs" "lower_signs" s_lower_signs (ga K "lower_signs") fd
  f_letters_in : mg "letters_in" = some (.ref (ga K "letters_in")) ∧ ∃ fd, Fun K "letters_in" "letters_in" s_letters_in (ga K "letters_in") fd
  f_need_sign : mg "need_sign" = some (.ref (ga K "need_sign")) ∧ ∃ fd, Fun K "need_sign" "need_sign" s_need_sign (ga K "need_sign") fd
  f_is_unit : mg "is_unit" = some (.ref (ga K "is_unit")) ∧ ∃ fd, Fun K "is_unit" "is_unit" s_is_unit (ga K "is_unit") fd
  f_write_rest : mg "write_rest" = some (.ref (ga K "write_rest")) ∧ ∃ fd, Fun K "write_rest" "write_rest" s_write_rest (ga K "write_rest") fd
  f_write_choice : mg "write_choice" = some (.ref (ga K "write_choice")) ∧ ∃ fd, Fun K "write_choice" "write_choice" s_write_choice (ga K "write_choice") fd
  f_read_rest : mg "read_rest" = some (.ref (ga K "read_rest")) ∧ ∃ fd, Fun K "read_rest" "read_rest" s_read_rest (ga K "read_rest") fd
  f_read_choice : mg "read_choice" = some (.ref (ga K "read_choice")) ∧ ∃ fd, Fun K "read_choice" "read_choice" s_read_choice (ga K "read_choice") fd
  f_need_size : mg "need_size" = some (.ref (ga K "need_size")) ∧ ∃ fd, Fun K "need_size" "need_size" s_need_size (ga K "need_size") fd
  f_letters_of : mg "letters_of" = some (.ref (ga K "letters_of")) ∧ ∃ fd, Fun K "letters_of" "letters_of" s_letters_of (ga K "letters_of") fd
  f_read_choices : mg "read_choices" = some (.ref (ga K "read_choices")) ∧ ∃ fd, Fun K "read_choices" "read_choices" s_read_choices (ga K "read_choices") fd
  f_choices_of : mg "choices_of" = some (.ref (ga K "choices_of")) ∧ ∃ fd, Fun K "choices_of" "choices_of" s_choices_of (ga K "choices_of") fd
  f_come_to : mg "come_to" = some (.ref (ga K "come_to")) ∧ ∃ fd, Fun K "come_to" "come_to" s_come_to (ga K "come_to") fd
  f_needed : mg "needed" = some (.ref (ga K "needed")) ∧ ∃ fd, Fun K "needed" "needed" s_needed (ga K "needed") fd
  f_leads_ahead : mg "leads_ahead" = some (.ref (ga K "leads_ahead")) ∧ ∃ fd, Fun K "leads_ahead" "leads_ahead" s_leads_ahead (ga K "leads_ahead") fd
  f_entries : mg "entries" = some (.ref (ga K "entries")) ∧ ∃ fd, Fun K "entries" "entries" s_entries (ga K "entries") fd
  f_shown_from : mg "shown_from" = some (.ref (ga K "shown_from")) ∧ ∃ fd, Fun K "shown_from" "shown_from" s_shown_from (ga K "shown_from") fd
  f__law_state : mg "_law_state" = some (.ref (ga K "_law_state")) ∧ ∃ fd, Fun K "_law_state" "_law_state" s__law_state (ga K "_law_state") fd
  f__law_next : mg "_law_next" = some (.ref (ga K "_law_next")) ∧ ∃ fd, Fun K "_law_next" "_law_next" s__law_next (ga K "_law_next") fd
  f__law_order : mg "_law_order" = some (.ref (ga K "_law_order")) ∧ ∃ fd, Fun K "_law_order" "_law_order" s__law_order (ga K "_law_order") fd
  f__law_web : mg "_law_web" = some (.ref (ga K "_law_web")) ∧ ∃ fd, Fun K "_law_web" "_law_web" s__law_web (ga K "_law_web") fd
  f__law_simple : mg "_law_simple" = some (.ref (ga K "_law_simple")) ∧ ∃ fd, Fun K "_law_simple" "_law_simple" s__law_simple (ga K "_law_simple") fd
  f__law_had : mg "_law_had" = some (.ref (ga K "_law_had")) ∧ ∃ fd, Fun K "_law_had" "_law_had" s__law_had (ga K "_law_had") fd
  f_law : mg "law" = some (.ref (ga K "law")) ∧ ∃ fd, Fun K "law" "law" s_law (ga K "law") fd
  g_Coder : mg "Coder" = some (.ref (ga K "Coder"))
  k_Writer : Cls K (ga K "Writer")
  g_Writer : mg "Writer" = some (.ref (ga K "Writer"))
  n_Writer_low : NoAttr K (ga K "Writer") "low"
  n_Writer_breadth : NoAttr K (ga K "Writer") "breadth"
  n_Writer_room : NoAttr K (ga K "Writer") "room"
  n_Writer_sent : NoAttr K (ga K "Writer") "sent"
  n_Writer_learned_ones : NoAttr K (ga K "Writer") "learned_ones"
  k_Reader : Cls K (ga K "Reader")
  g_Reader : mg "Reader" = some (.ref (ga K "Reader"))
  n_Reader_low : NoAttr K (ga K "Reader") "low"
  n_Reader_breadth : NoAttr K (ga K "Reader") "breadth"
  n_Reader_room : NoAttr K (ga K "Reader") "room"
  n_Reader_sent : NoAttr K (ga K "Reader") "sent"
  n_Reader_learned_ones : NoAttr K (ga K "Reader") "learned_ones"
  n_Reader_signs : NoAttr K (ga K "Reader") "signs"
  n_Reader_code : NoAttr K (ga K "Reader") "code"
  k_Row : Cls K (ga K "Row")
  g_Row : mg "Row" = some (.ref (ga K "Row"))
  n_Row_width : NoAttr K (ga K "Row") "width"
  n_Row_height : NoAttr K (ga K "Row") "height"
  n_Row_all_units : NoAttr K (ga K "Row") "all_units"
  n_Row_all_choices : NoAttr K (ga K "Row") "all_choices"
  n_Row_all_reads : NoAttr K (ga K "Row") "all_reads"
  n_Row_places_by_tick : NoAttr K (ga K "Row") "places_by_tick"
  m_Writer_chance_of : MetK K "Writer" "chance_of" "Coder.chance_of" s_Coder_chance_of
  m_Writer_narrowed : MetK K "Writer" "narrowed" "Coder.narrowed" s_Coder_narrowed
  m_Writer_learn : MetK K "Writer" "learn" "Coder.learn" s_Coder_learn
  m_Writer_bit : MetK K "Writer" "bit" "Writer.bit" s_Writer_bit
  m_Writer_even : MetK K "Writer" "even" "Writer.even" s_Writer_even
  m_Writer_number : MetK K "Writer" "number" "Writer.number" s_Writer_number
  m_Writer_letters : MetK K "Writer" "letters" "Writer.letters" s_Writer_letters
  m_Reader_chance_of : MetK K "Reader" "chance_of" "Coder.chance_of" s_Coder_chance_of
  m_Reader_narrowed : MetK K "Reader" "narrowed" "Coder.narrowed" s_Coder_narrowed
  m_Reader_learn : MetK K "Reader" "learn" "Coder.learn" s_Coder_learn
  m_Reader_sign_at : MetK K "Reader" "sign_at" "Reader.sign_at" s_Reader_sign_at
  m_Reader_read_by : MetK K "Reader" "read_by" "Reader.read_by" s_Reader_read_by
  m_Reader_bit : MetK K "Reader" "bit" "Reader.bit" s_Reader_bit
  m_Reader_even : MetK K "Reader" "even" "Reader.even" s_Reader_even
  m_Reader_number : MetK K "Reader" "number" "Reader.number" s_Reader_number
  m_Row_take : MetK K "Row" "take" "Row.take" s_Row_take
  m_Row_units : MetK K "Row" "units" "Row.units" s_Row_units
  m_Row_reads_at : MetK K "Row" "reads_at" "Row.reads_at" s_Row_reads_at
  i_Writer : Mk K (ga K "Writer") (ma K (ga K "Writer") "__init__") ∧ ∃ fd, Fun K "__init__" "Coder.__init__" s_Coder___init__ (ma K (ga K "Writer") "__init__") fd
  i_Reader : Mk K (ga K "Reader") (ma K (ga K "Reader") "__init__") ∧ ∃ fd, Fun K "__init__" "Reader.__init__" s_Reader___init__ (ma K (ga K "Reader") "__init__") fd
  i_Row : Mk K (ga K "Row") (ma K (ga K "Row") "__init__") ∧ ∃ fd, Fun K "__init__" "Row.__init__" s_Row___init__ (ma K (ga K "Row") "__init__") fd
  i_Coder : PySem.W.keepIn K (.ref (ma K (ga K "Coder") "__init__")) = true ∧ ClX.CRead K (ga K "Coder") (.type "type") ∧ PySem.W.findCls K (.ref (ga K "Coder")) (.type "type") "__init__" = some (.val (.ref (ma K (ga K "Coder") "__init__"))) ∧ ∃ fd, Fun K "__init__" "Coder.__init__" s_Coder___init__ (ma K (ga K "Coder") "__init__") fd
end K36
namespace K36
open L2 PySem
open PySem.Spec PyProof.Rows
/-! ### the built-in names -/
theorem bb_int : bootBuiltins "int" = some (.type "int") := by decide +kernel
theorem bb_bool : bootBuiltins "bool" = some (.type "bool") := by decide +kernel
theorem bb_str : bootBuiltins "str" = some (.type "str") := by decide +kernel
theorem bb_list : bootBuiltins "list" = some (.type "list") := by decide +kernel
theorem bb_tuple : bootBuiltins "tuple" = some (.type "tuple") := by decide +kernel
theorem bb_abs : bootBuiltins "abs" = some (.builtin "abs") := by decide +kernel
theorem bb_all : bootBuiltins "all" = some (.builtin "all") := by decide +kernel
theorem bb_any : bootBuiltins "any" = some (.builtin "any") := by decide +kernel
theorem bb_max : bootBuiltins "max" = some (.builtin "max") := by decide +kernel
theorem bb_min : bootBuiltins "min" = some (.builtin "min") := by decide +kernel
theorem bb_sorted : bootBuiltins "sorted" = some (.builtin "sorted") := by decide +kernel
theorem bb_isinstance : bootBuiltins "isinstance" = some (.builtin "isinstance") := by decide +kernel
/-! ### heaps -/
theorem same_new {H : Hp} {p : Addr} {o : HO} (h : H p = none) : Same H (upd H p o) := fun b x e => by
  rw [upd_ne (ne_of_none e h)]
  exact e
theorem _root_.L2.Same.new {H H' : Hp} {p : Addr} {o : HO} (s : Same H H') (h : H' p = none) : Same H (upd H' p o) := s.trans (same_new h)
theorem _root_.L2.Same.tup {K : PySem.W.Frag} {H H' : Hp} {a : Addr} {xs : List V} (e : Same H H') (h : SqT K H a xs) : SqT K H' a xs := by
  rcases h with (h | ⟨o, h⟩) | h
  · exact .inl (.inl (e _ _ h))
  · exact .inl (.inr ⟨o, e _ _ h⟩)
  · exact .inr h
/-- all that was tracked is as it was, but what is listed -/
def Kept (ps : List Addr) (H H' : Hp) : Prop := ∀ b o, H b = some o → b ∉ ps → H' b = some o
theorem _root_.L2.Same.kept {H H' : Hp} {ps : List Addr} (s : Same H H') : Kept ps H H' := fun b o e _ => s b o e
theorem Kept.trans {ps : List Addr} {H H1 H2 : Hp} (a : Kept ps H H1) (b : Kept ps H1 H2) : Kept ps H H2 := fun c o e n => b c o (a c o e n) n
theorem kept_upd {H : Hp} {p : Addr} {o : HO} {ps : List Addr} (h : p ∈ ps) : Kept ps H (upd H p o) := fun b u e n => by
  rw [upd_ne (show b ≠ p from fun z => n (by rw [z]; exact h))]
  exact e
theorem kept_new {H : Hp} {p : Addr} {o : HO} {ps : List Addr} (h : H p = none) : Kept ps H (upd H p o) := L2.Same.kept (same_new h)
theorem Kept.mono {ps qs : List Addr} {H H' : Hp} (k : Kept ps H H') (h : ∀ x ∈ ps, x ∈ qs) : Kept qs H H' := fun b o e n => k b o e fun z => n (h b z)
/-- where all that may change did not stand ahead -/
theorem Kept.same {ps : List Addr} {H0 H H' : Hp} (s : Same H0 H) (k : Kept ps H H') (n : ∀ x ∈ ps, H0 x = none) : Same H0 H' := fun b o e => k b o (s b o e) fun z => by
  rw [n b z] at e
  cases e
theorem Kept.tup {K : PySem.W.Frag} {ps : List Addr} {H H' : Hp} {a : Addr} {xs : List V} (k : Kept ps H H') (h : SqT K H a xs) (n : a ∉ ps) : SqT K H' a xs := by
  rcases h with (h | ⟨o, h⟩) | h
  · exact .inl (.inl (k _ _ h n))
  · exact .inl (.inr ⟨o, k _ _ h n⟩)
  · exact .inr h
theorem nil_ne {H : Hp} {p : Addr} {o : HO} (h : H p = some o) : H p ≠ none := by
  rw [h]
  exact fun z => nomatch z
section
variable {X : Cx}
/-! ### module constants -/
theorem pe_gint {x : Str} {i : Int} {pos : Pos} (h : ∃ t, X.mg x = some (.int i t)) (hg : Gl X x := by rfl) (hd : (x == ("__debug__" : Str)) = false := by decide) : PE X (.Name x pos) (tC (.int i)) := by
  obtain ⟨t, h⟩ := h
  exact pe_glob hg h ⟨t, rfl⟩ hd
theorem pe_gref {x : Str} {a : Addr} {pos : Pos} (h : X.mg x = some (.ref a)) (hg : Gl X x := by rfl) (hd : (x == ("__debug__" : Str)) = false := by decide) : PE X (.Name x pos) (tC (.ref a)) :=
  pe_glob hg h rfl hd
theorem pe_bty {x : Str} {n : String} {pos : Pos} (h : X.mg x = none) (hb : bootBuiltins x = some (.type n)) (hg : Gl X x := by rfl) (hn : x ≠ "__name__" := by decide) (hd : (x == ("__debug__" : Str)) = false := by decide) : PE X (.Name x pos) (tC (.ty n)) :=
  pe_bltn hg h hb rfl hn hd
end
/-! ### defs, methods, classes with their promises -/
def FnAt (P : Program) (w : World) (K : PySem.W.Frag) (mg : Str → Option Value) (base : Heap) (k : Nat) (x : Str) (ps : List Str) (sp : Sp) : Prop :=
  mg x = some (.ref (ga K x)) ∧ ∃ fd, FnOk P w K mg base CX0 k (ga K x) fd ps sp ∧ Binds K fd ps [] ∧ PySem.W.keepIn K (.ref (ga K x)) = true
def MtAt (P : Program) (w : World) (K : PySem.W.Frag) (mg : Str → Option Value) (base : Heap) (k : Nat) (C m : Str) (ps : List Str) (sp : Sp) : Prop :=
  Cls K (ga K C) ∧ ∃ f fd, Meth K (ga K C) m f ∧ FnOk P w K mg base CX0 k f fd ps sp ∧ Binds K fd ps []
def MkAt (P : Program) (w : World) (K : PySem.W.Frag) (mg : Str → Option Value) (base : Heap) (k : Nat) (C : Str) (ps : List Str) (sp : Sp) : Prop :=
  mg C = some (.ref (ga K C)) ∧ ∃ f fd, Mk K (ga K C) f ∧ FnOk P w K mg base CX0 k f fd ps sp ∧ Binds K fd ps []
section
variable {X : Cx} {k j : Nat} {x m C : Str} {ps : List Str} {sp : Sp} {e o : Expr} {es : List Expr} {t : TA} {ta : TE} {p pos apos : Pos}
theorem pe_cal (F : FnAt X.prog X.w X.K X.mg X.base k x ps sp) (hr : Room j X.A) (hk : k ≤ j := by decide) (ha : PA X (e :: es) t) (hg : Gl X x := by rfl) (hdb : (x == ("__debug__" : Str)) = false := by decide)
    (he : starEach (e :: es) X.env = (false, eval e X.env) :: starEach es X.env := by rfl) (hpl : (backTo pos (starEach es X.env)).any (·.1) = false := by rfl) : PE X (.Call (.Name x p) (e :: es) [] pos) (tCall sp [] E0 t) := by
  obtain ⟨hm, fd, F1, b, kp⟩ := F
  exact pe_call (F1.mono hk) hr hg hm kp b .nil pass0 ha hdb he hpl
theorem pe_mcal {pl : Sem Bool} (F : MtAt X.prog X.w X.K X.mg X.base k C m ps sp) (hr : Room j X.A) (hk : k ≤ j := by decide) (ho : PE X o ta) (ha : PA X (e :: es) t)
    (hst : starEach (e :: es) X.env = (false, eval e X.env) :: starEach es X.env := by rfl) (hpl : (backTo pos (starEach es X.env)).any (·.1) = false := by rfl)
    (ht : eval (.Call (.Attribute o m apos) (e :: es) [] pos) X.env = (do
      let ov ← eval o X.env
      standAt apos.atName
      let (f, first) ← holding [ov] (getMethod ov m pl)
      callWith pos f first (backTo pos (starEach (e :: es) X.env)) (backToKw pos (keywordEach [] X.env))) := by rfl) : PE X (.Call (.Attribute o m apos) (e :: es) [] pos) (tMeth (ga X.K C) m sp [] E0 ta t) := by
  obtain ⟨c, f, fd, hm, F1, b⟩ := F
  exact pe_meth ho c hm (F1.mono hk) hr b .nil pass0 ha hst hpl ht
theorem pe_mcal0 {pl : Sem Bool} (F : MtAt X.prog X.w X.K X.mg X.base k C m ps sp) (hr : Room j X.A) (hk : k ≤ j := by decide) (ho : PE X o ta)
    (ht : eval (.Call (.Attribute o m apos) [] [] pos) X.env = (do
      let ov ← eval o X.env
      standAt apos.atName
      let (f, first) ← holding [ov] (getMethod ov m pl)
      callWith pos f first (backTo pos (starEach [] X.env)) (backToKw pos (keywordEach [] X.env))) := by rfl) : PE X (.Call (.Attribute o m apos) [] [] pos) (tMeth (ga X.K C) m sp [] E0 ta tNil) := by
  obtain ⟨c, f, fd, hm, F1, b⟩ := F
  exact pe_meth0 ho c hm (F1.mono hk) hr b .nil pass0 ht
theorem pe_mkA (F : MkAt X.prog X.w X.K X.mg X.base k x ps sp) (hr : Room (j + 1) X.A) (hk : k ≤ j := by decide) (ha : PA X (e :: es) t) (hg : Gl X x := by rfl) (hdb : (x == ("__debug__" : Str)) = false := by decide)
    (he : starEach (e :: es) X.env = (false, eval e X.env) :: starEach es X.env := by rfl) (hpl : (backTo pos (starEach es X.env)).any (·.1) = false := by rfl) : PE X (.Call (.Name x p) (e :: es) [] pos) (tMake (ga X.K x) sp [] E0 t) := by
  obtain ⟨hm, f, fd, M, F1, b⟩ := F
  exact pe_make M (F1.mono hk) hr hg hm b .nil pass0 ha hdb he hpl
theorem pe_mkA0 (F : MkAt X.prog X.w X.K X.mg X.base k x ps sp) (hr : Room (j + 1) X.A) (hk : k ≤ j := by decide) (hg : Gl X x := by rfl) (hdb : (x == ("__debug__" : Str)) = false := by decide) : PE X (.Call (.Name x p) [] [] pos) (tMake (ga X.K x) sp [] E0 tNil) := by
  obtain ⟨hm, f, fd, M, F1, b⟩ := F
  exact pe_make0 M (F1.mono hk) hr hg hm b .nil pass0 hdb
/-- f(k = a, ..), names alone, or places first: the parameters' order by g -/
def KwAt (P : Program) (w : World) (K : PySem.W.Frag) (mg : Str → Option Value) (base : Heap) (k : Nat) (x : Str) (ps : List Str) (sp : Sp) : Prop :=
  mg x = some (.ref (ga K x)) ∧ ∃ fd, FnOk P w K mg base CX0 k (ga K x) fd ps sp ∧ Fun K x x (top 0) (ga K x) fd
end
section
variable {P : Program} {w : World} {K : PySem.W.Frag} {mg : Str → Option Value} {base : Heap}
/-- a def's promise by its body -/
theorem FnAt.of {x : Str} {st : Stmt} {N ps : List Str} {k : Nat} {sp : Sp} (F : mg x = some (.ref (ga K x)) ∧ ∃ fd, Fun K x x st (ga K x) fd) (S : FnScope N ps (defScope st)) 
    (hb : ∀ (kV doc pm : Value) (an : Option Addr) (cdv ct : Value) (us : List Value), us.length = ps.length → bindArgs (PySem.W.fnOf x x (defArgs st) (defBody st) (defScope st) .none kV doc pm an cdv ct) ⟨us, []⟩ = pure (ps.zip us))
    (len : ∀ vs H Q E, sp vs H Q E → vs.length = ps.length)
    (body : ∀ (cdv : Value) (A : Around) (outer : List Env) (s : Shared) (H : Hp) (vs : List V) (Q : VK) (E : XK), Room k (A.deeper (envOfC x (defScope st) s.heap.objs.size (ga K x) cdv)) → sp vs H Q E →
      ∃ t, PSs (cxOf CX0 P w K mg base N x (defScope st) (ga K x) cdv A outer s H E).nox (defBody st) t ∧ t { nx := fun _ H' => Q .non H', rt := Q } (start N vs) H) : FnAt P w K mg base (k + 1) x ps sp := by
  obtain ⟨hm, fd, F⟩ := F
  exact ⟨hm, fd, F.ok S len body, F.binds hb, F.kp⟩
theorem FnAt.mono {x : Str} {ps : List Str} {j k : Nat} {sp : Sp} (F : FnAt P w K mg base j x ps sp) (h : j ≤ k) : FnAt P w K mg base k x ps sp := by
  obtain ⟨hm, fd, F, b, kp⟩ := F
  exact ⟨hm, fd, F.mono h, b, kp⟩
/-- a method's promise by its body; C the class of the object, C0 the class that has the def -/
theorem MtAt.of {C m qual : Str} {st : Stmt} {N ps : List Str} {k : Nat} {sp : Sp} (cl : Cls K (ga K C)) (F : MetK K C m qual st) (S : FnScope N ps (defScope st)) 
    (hb : ∀ (kV doc pm : Value) (an : Option Addr) (cdv ct : Value) (us : List Value), us.length = ps.length → bindArgs (PySem.W.fnOf m qual (defArgs st) (defBody st) (defScope st) .none kV doc pm an cdv ct) ⟨us, []⟩ = pure (ps.zip us))
    (len : ∀ vs H Q E, sp vs H Q E → vs.length = ps.length)
    (body : ∀ (cdv : Value) (A : Around) (outer : List Env) (s : Shared) (H : Hp) (vs : List V) (Q : VK) (E : XK), Room k (A.deeper (envOfC qual (defScope st) s.heap.objs.size (ma K (ga K C) m) cdv)) → sp vs H Q E →
      ∃ t, PSs (cxOf CX0 P w K mg base N qual (defScope st) (ma K (ga K C) m) cdv A outer s H E).nox (defBody st) t ∧ t { nx := fun _ H' => Q .non H', rt := Q } (start N vs) H) : MtAt P w K mg base (k + 1) C m ps sp := by
  obtain ⟨fd, M, F⟩ := F
  exact ⟨cl, _, fd, M, F.ok S len body, F.binds hb⟩
theorem MkAt.of {C qual : Str} {st : Stmt} {N ps : List Str} {k : Nat} {sp : Sp} (g : mg C = some (.ref (ga K C))) (F : Mk K (ga K C) (ma K (ga K C) "__init__") ∧ ∃ fd, Fun K "__init__" qual st (ma K (ga K C) "__init__") fd) (S : FnScope N ps (defScope st)) 
    (hb : ∀ (kV doc pm : Value) (an : Option Addr) (cdv ct : Value) (us : List Value), us.length = ps.length → bindArgs (PySem.W.fnOf "__init__" qual (defArgs st) (defBody st) (defScope st) .none kV doc pm an cdv ct) ⟨us, []⟩ = pure (ps.zip us))
    (len : ∀ vs H Q E, sp vs H Q E → vs.length = ps.length)
    (body : ∀ (cdv : Value) (A : Around) (outer : List Env) (s : Shared) (H : Hp) (vs : List V) (Q : VK) (E : XK), Room k (A.deeper (envOfC qual (defScope st) s.heap.objs.size (ma K (ga K C) "__init__") cdv)) → sp vs H Q E →
      ∃ t, PSs (cxOf CX0 P w K mg base N qual (defScope st) (ma K (ga K C) "__init__") cdv A outer s H E).nox (defBody st) t ∧ t { nx := fun _ H' => Q .non H', rt := Q } (start N vs) H) : MkAt P w K mg base (k + 1) C ps sp := by
  obtain ⟨M, fd, F⟩ := F
  exact ⟨g, _, fd, M, F.ok S len body, F.binds hb⟩
end
end K36
namespace K36
open L2 PySem
open PySem.Spec PyProof.Rows
/-! ### d.update(e) of two dicts -/
def rUpdate : V → List V → Hp → VK → Prop := fun x vs H Q => ∃ a b kvs more, x = .ref a ∧ vs = [.ref b] ∧ H a = some (.dK kvs) ∧ H b = some (.dK more) ∧ a ≠ b ∧ kvs.length + more.length ≤ sizeLine ∧ (mergeK kvs more).length ≤ sizeLine ∧
  Q .non (upd H a (.dK (mergeK kvs more)))
section
variable {X : Cx}
theorem mt_update : MtM X "dict.update" rUpdate := by
  rintro pins s σ H x vs v us Q I rx rv ⟨a, b, kvs, more, rfl, rfl, ha, hb, hab, hz, hz2, q⟩
  obtain ⟨u, rfl, ru⟩ := vals1 rv
  cases rx
  cases ru
  obtain ⟨z1, hd1, ws1, r1, D1⟩ := dk_of I.hok ha
  obtain ⟨z2, hd2, ws2, r2, D2⟩ := dk_of I.hok hb
  refine call_meetsIn PySem.F.slot_dict_update D1.typeIs PySem.F.entry_dict_update (PySem.F.args_dict_update_2 _ _) (meets_dict_update (mixKind X.prog X.w) a b hab hd2)
    ⟨ws1, ws2, D1, D2, by rw [← Paired.length r1, ← Paired.length r2]; exact hz, fun h' E1 E2 sb => ?_⟩
  have hw : ∃ o, h'.get? a = some o := by
    obtain ⟨o, _, _, e, _⟩ := E1
    exact ⟨o, e⟩
  have I2 := I.write (t' := s.toks) (h' := h') (x := a) (e := a) (o := .dK (mergeK kvs more)) (by rw [ha]; exact True.intro) (.inl rfl) (fun c o hc e => (sb.2 c hc).trans e) hw
    ⟨hz2, hd1, _, KV.merge r2 r1, E1⟩
  exact ⟨.non, _, I2, rfl, q⟩
end
/-! ### a, *b = a tuple -/
def gStar (K : PySem.W.Frag) (t1 t2 : TG) : TG := fun v σ H Q => ∃ p x xs, v = .ref p ∧ SqT K H p (x :: xs) ∧ xs.length ≤ 1000 ∧ ∀ D, H D = none → t1 x σ (upd H D (.lst xs)) fun σ' H' => t2 (.ref D) σ' H' Q
theorem unp_star {prog : Program} {w : World} {A : Around} {E : Value → Shared → Prop} {s : Shared} {t : Addr} {u : Value} {us : List Value} {Q : List Value → Shared → Prop}
    (hh : A.handled = none) (ht : IsTup s.heap t (u :: us).toArray) (hz : us.length ≤ 1000)
    (h : ∀ (h2 : Heap) (tk : Nat), (∀ b o, s.heap.get? b = some o → h2.get? b = some o) → Q [u, .ref h2.objs.size] { s with heap := h2.push { cls := .type "list", data := .seq us.toArray }, toks := tk }) :
    wpAny (model prog w) A (unpackItems (.ref t) 2 (some 1)) Q E s := by
  have lt1 : t ≠ s.heap.objs.size := let ⟨o, ho, _⟩ := ht; Nat.ne_of_lt (Heap.lt_size ho)
  unfold unpackItems notIterableAtAll
  refine wpAny_bind (wpAny_bind (wpAny_specialOf ht.typeIs slot_tuple_iter.lookup (wpAny_pure ?_)))
  simp only [Bool.false_eq_true, if_false]
  refine wpAny_bind (wpAny_holding (iter_tuple ht ?_))
  refine wpAny_bind (wpAny_holding (draw_tuple lt1 1 0 _ _ ⟨_, Heap.get?_push_size _ rfl, rfl, rfl⟩ (ht.push _) (by simp) fun h1 it1 sb1 => ?_))
  have t1 : IsTup h1 t (u :: us).toArray := (ht.push _).extBut sb1.extBut lt1
  simp only [List.drop_zero, List.take_succ_cons, List.take_zero, List.length_cons, List.length_nil]
  rw [if_neg (by simp)]
  have lt2 : s.heap.objs.size < h1.objs.size := by
    rw [sb1.1, Heap.size_push]
    exact Nat.lt_succ_self _
  have lt3 : t < h1.objs.size := let ⟨o, ho, _⟩ := t1; Heap.lt_size ho
  refine wpAny_bind (wpAny_holding (PySem.W.kun_collect (s := { s with heap := h1 }) (T := "tuple_iterator") (.inr (.inr (.inr rfl))) (Walks.tuple (A := A.in1) hh s.heap.objs.size t lt1 (u :: us).toArray)
    (fun j z st => st.1.typeIs) (k := 1) (by simp) ⟨it1, t1⟩ lt2 lt3 (fun h2 tk k2 => ?_) (by rw [sizeLine_eq]; simp; omega)))
  have ed : ((u :: us).toArray.toList.drop 1) = us := rfl
  rw [ed]
  rw [if_neg (by simp)]
  have e0 : us.take (us.length - (2 - 1 - 1)) = us := by simp
  have e1 : us.drop (us.length - (2 - 1 - 1)) = [] := by simp
  show wpAny _ _ (newList (us.take (us.length - (2 - 1 - 1))) >>= fun d => pure ([u] ++ [d] ++ us.drop (us.length - (2 - 1 - 1)))) _ _ _
  rw [e0, e1]
  refine wpAny_bind (wpAny_newObj_type (wpAny_pure ?_) (by show us.length ≤ sizeLine; rw [sizeLine_eq]; omega))
  have kk : ∀ b o, s.heap.get? b = some o → h2.get? b = some o := fun b o e =>
    k2 b o (Nat.ne_of_lt (Heap.lt_size e)) (sb1.extBut b o (Nat.ne_of_lt (Heap.lt_size e)) (Heap.get?_push_of_some _ e))
  exact h h2 tk kk
theorem pg_star1 {X : Cx} {a b : Expr} {t1 t2 : TG} {k : Nat} {pos sp : Pos} (hc : X.calm = true) (h1 : PG X a t1) (h2' : PG X b t2)
    (hs : assignEach [a, .Starred b sp] X.env = [(false, assign a X.env), (true, assign b X.env)] := by rfl) : PG X (.Tuple [a, .Starred b sp] k pos) (gStar X.K t1 t2) := by
  refine ⟨fun pins s σ H v u Q I r hw => ?_⟩
  obtain ⟨p, x, xs, rfl, hq, hz, hw⟩ := hw
  cases r
  obtain ⟨its, rv, ht, _⟩ := I.tuple hq
  cases rv with
  | @cons _ u1 _ us r1 rr =>
    have hlen := rr.length
    rw [arm_assign_Tuple]
    refine wpAny_bind (wpAny_standAt ?_)
    unfold unpack
    rw [hs]
    refine wpAny_bind (wpAny_holding (unp_star (us := us) (I.ok.hd hc) ht (by omega) fun h2 tk kk => ?_))
    have I1 : Inv X pins σ H { s with heap := h2, toks := tk } := I.kept kk
    have nD : H h2.objs.size = none := I1.hok.fresh (Nat.le_refl _)
    have I2 : Inv X pins σ (upd H h2.objs.size (.lst xs)) { s with heap := h2.push { cls := .type "list", data := .seq us.toArray }, toks := tk } :=
      I1.laid (t' := tk) (a := h2.objs.size) (o := .lst xs) (fun b o e => Heap.get?_push_of_some _ e) (Nat.le_refl _) ⟨by rw [sizeLine_eq]; omega, us, 0, rr, Heap.get?_push_size _ rfl⟩
    refine assignInOrder_cons (thn (PG.run h1 pins _ σ _ x u1 _ I2 r1 (hw _ nD)) fun _ s3 ⟨σ3, H3, I3, q3⟩ => ?_)
    refine assignInOrder_cons (thn (PG.run h2' pins s3 σ3 H3 (.ref h2.objs.size) _ _ I3 rfl q3) fun _ s4 q4 => ?_)
    exact assignInOrder_nil q4
end K36
namespace K36
open L2 PySem
open PySem.Spec PyProof.Rows
/-! ### a walk by tuples (the library's WalksT) as a turn of this layer -/
theorem turn_walks {P : Program} {w : World} {K : PySem.W.Frag} {elts : List Expr} {kk : Nat} {tpos : Pos} {J : It} {I0 : Addr} {wr ft : List Addr} {tn : Nat → Heap → Prop}
    (mem : I0 ∈ ft) (sub : ∀ b ∈ wr, b ∈ ft) (obj : ∀ i h, tn i h → ∀ b ∈ ft, ∃ o, h.get? b = some o ∧ ∀ v, o.data ≠ .cell v)
    (keep : ∀ i h h', tn i h → (∀ b ∈ ft, ∀ o, h.get? b = some o → h'.get? b = some o) → tn i h')
    (it : ∀ (X : Cx), X.prog = P → X.w = w → X.K = K → X.calm = true → ∀ (i : Nat) (pins : List (Addr × Obj)) (s : Shared) (σ : L2.St) (H : Hp), Inv X pins σ H s → tn i s.heap → J.go i H →
      ∃ (fp : List Addr) (n : Nat) (Pt : Nat → Array Value → Prop) (Sx : Nat → Heap → Prop) (Mid : Nat → Addr → Heap → Prop), WalksT P w X.A I0 fp wr n Pt Sx Mid ∧ i < n ∧ Sx i s.heap ∧ (∀ h', Sx (i + 1) h' → tn (i + 1) h') ∧
        ∀ vals, Pt i vals → ∃ ys : List V, ys.length ≤ sizeLine ∧ Vals ys vals.toList ∧ ∀ T, H T = none → J.yld i H (.ref T) (upd H T (.tup ys)))
    (dn : ∀ (X : Cx), X.prog = P → X.w = w → X.K = K → X.calm = true → ∀ (i : Nat) (pins : List (Addr × Obj)) (s : Shared) (σ : L2.St) (H : Hp), Inv X pins σ H s → tn i s.heap → J.stop i H →
      ∃ (fp : List Addr) (n : Nat) (Pt : Nat → Array Value → Prop) (Sx : Nat → Heap → Prop) (Mid : Nat → Addr → Heap → Prop), WalksT P w X.A I0 fp wr n Pt Sx Mid ∧ Sx n s.heap)
    (sf : ∀ (A : Around) (i : Nat) (s : Shared) (Q : Value → Shared → Prop) (E : Value → Shared → Prop), tn i s.heap → Q (.ref I0) s → wpAny (model P w) A (pyIter (.ref I0)) Q E s) :
    Turn P w K (.Tuple elts kk tpos) J ft I0 tn where
  mem := mem
  obj := obj
  keep := keep
  self := sf
  item := by
    intro X hP hw hK hc i pins s σ H E I hf st hg
    obtain ⟨fp, n, Pt, Sx, Mid, W, hi, hs, hback, hv⟩ := it X hP hw hK hc i pins s σ H I st hg
    subst hP hw hK
    refine W.item i s _ E hi hs fun T vals h' tk hPt hT htup hmid hk => ⟨_, rfl, W.go elts kk tpos i T { s with heap := h', toks := tk } _ _ hmid fun h2 hs2 hk2 => ?_⟩
    obtain ⟨ys, hz, rv, hy⟩ := hv vals hPt
    have nT : T ∉ wr := W.apart i T h' hmid
    have tup2 : h2.IsTuple T vals := by
      obtain ⟨o, ho, r⟩ := htup
      exact ⟨o, hk2 T o nT ho, r⟩
    have new : ObjOk X.prog X.w (upd H T (.tup ys)) h2 T (.tup ys) := ⟨hz, vals.toList, rv, tup2⟩
    have I1 : Inv X pins σ (upd H T (.tup ys)) { s with heap := h2, toks := tk } :=
      I.turnedNew (t' := tk) (ch := ft) (fun b o hb q => hk2 b o (fun z => hb (sub b z)) (hk b o (fun z => hb (sub b z)) q)) hf hT new
    refine ⟨.ref T, _, I1, rfl, hy T (I.hok.fresh hT), hback _ hs2, fun b hb => ?_⟩
    obtain ⟨o, e, _⟩ := obj i _ st b hb
    rw [upd_ne (Nat.ne_of_lt (Nat.lt_of_lt_of_le (Heap.lt_size e) hT))]
    exact (hf b hb).1
  done := by
    intro X hP hw hK hc i pins s σ H E I hf st hg
    obtain ⟨fp, n, Pt, Sx, Mid, W, hs⟩ := dn X hP hw hK hc i pins s σ H I st hg
    subst hP hw hK
    exact W.done s _ E hs fun h' tk hk => ⟨rfl, I.turnedL (t' := tk) (ch := ft) (fun b o hb q => hk b o (fun z => hb (sub b z)) q) hf⟩
/-! ### enumerate of a tuple -/
def Itet (K : PySem.W.Frag) (a : Addr) : It :=
  ⟨fun i H => ∃ (xs : List V) (x : V), SqT K H a xs ∧ xs[i]? = some x, fun i H v H' => ∃ T x, v = .ref T ∧ H T = none ∧ H' = upd H T (.tup [.int (i : Nat), x]) ∧ ∀ xs, SqT K H a xs → xs[i]? = some x, fun i H => ∃ xs : List V, SqT K H a xs ∧ xs.length = i⟩
theorem cls_apart {h : Heap} {a b : Addr} {o u : Obj} (ha : h.get? a = some o) (hb : h.get? b = some u) (hc : o.cls ≠ u.cls) : a ≠ b := by
  rintro rfl
  rw [ha] at hb
  cases hb
  exact hc rfl
theorem turn_enumT {P : Program} {w : World} {K : PySem.W.Frag} {elts : List Expr} {kk : Nat} {tpos : Pos} (a e it : Addr) :
    Turn P w K (.Tuple elts kk tpos) (Itet K a) [e, it] e (fun i h => (∃ old, IsEnum h e it ((i : Nat) : Int) old) ∧ h.IsTupleIter it a i ∧ e ≠ it) := by
  have walk : ∀ (X : Cx), X.prog = P → X.w = w → X.K = K → X.calm = true → ∀ (i : Nat) (pins : List (Addr × Obj)) (s : Shared) (σ : L2.St) (H : Hp) (xs : List V), Inv X pins σ H s → SqT K H a xs →
      ((∃ old, IsEnum s.heap e it ((i : Nat) : Int) old) ∧ s.heap.IsTupleIter it a i ∧ e ≠ it) →
      ∃ its : List Value, Vals xs its ∧ WalksT P w X.A e (e :: [it, a]) [e, it] its.toArray.size (fun j vals => ∃ t x, its.toArray[j]? = some x ∧ vals = #[.int (0 + (j : Int)) t, x])
        (fun j h => (∃ old, IsEnum h e it (0 + (j : Int)) old) ∧ (h.IsTupleIter it a j ∧ h.IsTuple a its.toArray)) (fun j T h => (∃ x, IsEnumOut h e it (0 + (j : Int) + 1) x T) ∧ (h.IsTupleIter it a (j + 1) ∧ h.IsTuple a its.toArray) ∧ T ≠ e ∧ T ≠ it) ∧
        ((∃ old, IsEnum s.heap e it (0 + (i : Int)) old) ∧ (s.heap.IsTupleIter it a i ∧ s.heap.IsTuple a its.toArray)) := by
    intro X hP hw hK hc i pins s σ H xs I hq st
    subst hP hw hK
    obtain ⟨⟨old, he⟩, hit, hne⟩ := st
    obtain ⟨its, rv, p, hz⟩ := I.tuple hq
    obtain ⟨o1, e1, c1, _⟩ := id p
    obtain ⟨o2, e2, c2, _⟩ := id hit
    have n1 : a ≠ it := cls_apart e1 e2 (by rw [c1, c2]; decide)
    have n2 : e ≠ a := cls_apart he e1 (by rw [c1]; show Value.type "enumerate" ≠ Value.type "tuple"; decide)
    refine ⟨its, rv, WalksT.enumFrom 0 (Draws.tuple (A := X.A.in1) (show X.A.in1.handled = none from I.ok.hd hc) it a n1 its.toArray) e hne (by simp [hne, n2]) (by simp), ⟨old, by rw [Int.zero_add]; exact he⟩, hit, p⟩
  refine turn_walks (wr := [e, it]) (by simp) (fun _ h => h) ?_ ?_ ?_ ?_ ?_
  · rintro i h ⟨⟨old, he⟩, ⟨o, ho, hc, hd⟩, _⟩ b hb
    have e' : b = e ∨ b = it := by simpa using hb
    rcases e' with z | z
    · rw [z]
      exact ⟨_, he, fun v q => nomatch q⟩
    · rw [z]
      exact ⟨o, ho, fun v q => by rw [hd] at q; cases q⟩
  · rintro i h h' ⟨⟨old, he⟩, hi, hne⟩ k
    exact ⟨⟨old, k e (by simp) _ he⟩, hi.at fun o q => k it (by simp) o q, hne⟩
  · intro X hP hw hK hc i pins s σ H I st hg
    obtain ⟨xs, x, hq, hx⟩ := hg
    obtain ⟨its, rv, W, S0⟩ := walk X hP hw hK hc i pins s σ H xs I hq st
    obtain ⟨u, hu, ru⟩ := rv.get hx
    have hlt : i < its.toArray.size := by
      rw [List.size_toArray]
      exact (List.getElem?_eq_some_iff.mp hu).1
    refine ⟨_, _, _, _, _, W, hlt, S0, fun h' z => ?_, ?_⟩
    · obtain ⟨⟨old, he⟩, hit, _⟩ := z
      rw [Int.zero_add] at he
      exact ⟨⟨old, he⟩, hit, st.2.2⟩
    · rintro vals ⟨t, y, hy, rfl⟩
      have ey : y = u := by
        rw [List.getElem?_toArray, hu] at hy
        exact (Option.some.inj hy).symm
      subst ey
      refine ⟨[.int (i : Nat), x], by rw [sizeLine_eq]; simp, .cons ⟨t, by rw [Int.zero_add]⟩ (.cons ru .nil), fun T hT => ⟨T, x, rfl, hT, rfl, fun zs hz => ?_⟩⟩
      subst hK
      rw [I.tuple_inj hz hq]
      exact hx
  · intro X hP hw hK hc i pins s σ H I st hg
    obtain ⟨xs, hq, hx⟩ := hg
    obtain ⟨its, rv, W, S0⟩ := walk X hP hw hK hc i pins s σ H xs I hq st
    have hn : its.toArray.size = i := by
      rw [List.size_toArray, ← rv.length, hx]
    refine ⟨_, _, _, _, _, W, ?_⟩
    rw [hn]
    exact S0
  · intro A i s Q E st h
    obtain ⟨⟨_, he⟩, _⟩ := st
    exact wpAny_pyIter_enum he h
/-- enumerate(v): its two cells -/
theorem enum_new1 {v : Value} {o : Obj} {Hh : Heap → Prop} (B : Begins v o Hh) :
    Meets (Builtin.«enumerate.__new__» ⟨[.type "enumerate", v], []⟩) (fun _ R s => Hh s.heap ∧
      R (.ok (.ret (.ref (s.heap.push o).objs.size))) { s with heap := (s.heap.push o).push { cls := .type "enumerate", data := .fields #[.none, .bool false, .ref s.heap.objs.size, rawInt 0, .none, .none] } }) :=
  .of_wp fun prog w A R s0 ⟨hst, hgo⟩ => by
    obtain ⟨hp, gs, dr, tk, os⟩ := s0
    have hsub := sub_enumerate
    have itv : ∀ {A1 : Around} {E1 : Value → Shared → Prop} {Q1 : Value → Shared → Prop}, Q1 (.ref hp.objs.size) ⟨hp.push o, gs, dr, tk, os⟩ → wpAny (model prog w) A1 (pyIter v) Q1 E1 ⟨hp, gs, dr, tk, os⟩ :=
      fun q => B.iter prog w _ _ ⟨hp, gs, dr, tk, os⟩ _ hst q
    wp_walk using itv
    refine wpAny_stack_any (fun z => wpAny_pure ?_)
    split
    · rename_i c1 _ _ _ _ _
      cases (c1 == Value.type "enumerate") <;> (wp_walk using itv; exact ⟨_, rfl, hgo⟩)
    · wp_walk using itv
      exact ⟨_, rfl, hgo⟩
theorem call_enum1 {prog : Program} {w : World} {A : Around} {E : Value → Shared → Prop} {s : Shared} {v : Value} {o : Obj} {Hh : Heap → Prop} {Q : Value → Shared → Prop} (B : Begins v o Hh) (h1 : Hh s.heap)
    (h : ∀ h' : Heap, IsEnum h' (s.heap.objs.size + 1) s.heap.objs.size 0 .none → h'.get? s.heap.objs.size = some o → (∀ b u, s.heap.get? b = some u → h'.get? b = some u) → Q (.ref (s.heap.objs.size + 1)) { s with heap := h' }) :
    wpAny (model prog w) A (call (.type "enumerate") [v]) Q E s := by
  refine callType_new F.called_enumerate (by decide) (F.typeCall_enumerate_1 _) (F.newCall_enumerate_1 _) (fun ob => F.args_object_init_2 ob _) F.entry_enumerate_new (enum_new1 B) ⟨h1, ?_⟩
  have hz : (s.heap.push o).objs.size = s.heap.objs.size + 1 := Heap.size_push _ _
  have he : IsEnum ((s.heap.push o).push { cls := .type "enumerate", data := .fields #[.none, .bool false, .ref s.heap.objs.size, rawInt 0, .none, .none] }) (s.heap.objs.size + 1) s.heap.objs.size 0 .none := by
    rw [← hz]
    exact Heap.get?_push_size (s.heap.push o) rfl
  show _ ∧ _
  rw [hz]
  exact ⟨⟨_, he, rfl⟩, h _ he (Heap.get?_push_of_some _ (Heap.get?_push_size _ B.free)) fun b u x => Heap.get?_push_of_some _ (Heap.get?_push_of_some _ x)⟩
def iEnumT (K : PySem.W.Frag) (ta : TA) : TI := fun σ H R => ta σ H fun vs H1 => ∃ a xs, vs = [.ref a] ∧ SqT K H1 a xs ∧ R (Itet K a) H1
theorem pi_enumT {X : Cx} {e : Expr} {ta : TA} {p pos tpos : Pos} {elts : List Expr} {kk : Nat} (hg : Gl X "enumerate") (hm : X.mg "enumerate" = none) (ha : PA X [e] ta) (hs : starEach [e] X.env = [(false, eval e X.env)] := by rfl) :
    PI X (.Tuple elts kk tpos) (.Call (.Name "enumerate" p) [e] [] pos) (iEnumT X.K ta) := by
  refine ⟨fun pins s σ H R I h => ?_⟩
  refine Call_ (ld_blt I hg hm boot_enumerate (PyProof.Rows.callWith_type1 (thn (ha.run pos pins s σ H _ I h) fun us s1 ⟨vs, H1, I1, r1, a, xs, ex, hq, q⟩ => ?_) hs rfl))
  subst ex
  obtain ⟨u1, rfl, ru⟩ := vals1 r1
  cases ru
  obtain ⟨its, rv, p', hz⟩ := I1.tuple hq
  refine call_enum1 (begins_tuple a its.toArray) p' fun h' he hit hk => wpAny_pyIter_enum he ?_
  have I2 : Inv X pins σ H1 { s1 with heap := h' } := I1.kept (t' := s1.toks) hk
  refine ⟨s1.heap.objs.size + 1, [s1.heap.objs.size + 1, s1.heap.objs.size], _, _, H1, rfl, I2, turn_enumT a (s1.heap.objs.size + 1) s1.heap.objs.size, ⟨⟨.none, he⟩, ⟨_, hit, rfl, rfl⟩, Nat.succ_ne_self _⟩, fun b hb => ?_, q⟩
  have e' : b = s1.heap.objs.size + 1 ∨ b = s1.heap.objs.size := by simpa using hb
  have hle : s1.heap.objs.size ≤ b := by
    rcases e' with z | z
    · rw [z]
      exact Nat.le_succ _
    · rw [z]
      exact Nat.le_refl _
  exact I1.fpOk hle (I1.hok.fresh hle)
theorem walk_enumT {K : PySem.W.Frag} {a : Addr} {xs : List V} : Walk (Itet K a) xs.length (fun H => SqT K H a xs) (YPair (fun i => some (.int (i : Nat))) (fun i => xs[i]?)) := by
  refine ⟨fun i _ hi q => ⟨xs, xs[i], q, by simp [hi]⟩, fun _ q => ⟨xs, q, rfl⟩, fun i H v H' _ q y => ?_⟩
  obtain ⟨T, x, h1, h2, h3, h4⟩ := y
  exact ⟨T, .int (i : Nat), x, h1, h2, h3, rfl, h4 xs q⟩
end K36
namespace K36
open L2 PySem
open PySem.Spec PyProof.Rows
/-! ### zip of a text and a list -/
def Itzs (K : PySem.W.Frag) (z : Str) (b : Addr) : It :=
  ⟨fun i H => ∃ (c : Nat) (ys : List V) (y : V), z.cps[i]? = some c ∧ SqL K H b ys ∧ ys[i]? = some y,
    fun i H v H' => ∃ T c y, v = .ref T ∧ H T = none ∧ H' = upd H T (.tup [.str ⟨#[c]⟩, y]) ∧ z.cps[i]? = some c ∧ ∀ ys, SqL K H b ys → ys[i]? = some y,
    fun i H => ∃ ys : List V, SqL K H b ys ∧ i = min z.cps.size ys.length⟩
structure Apart5 (Z TI TO i1 i2 : Addr) : Prop where
  a1 : TI ≠ Z
  a2 : TO ≠ Z
  a3 : TI ≠ TO
  a4 : TI ≠ i1
  a5 : TI ≠ i2
  a6 : Z ≠ i1
  a7 : Z ≠ i2
  a8 : TO ≠ i1
  a9 : TO ≠ i2
  a10 : i1 ≠ i2
theorem turn_zipSL {P : Program} {w : World} {K : PySem.W.Frag} {elts : List Expr} {kk : Nat} {tpos : Pos} {z : Str} {t : Tok} {b Z TI TO i1 i2 : Addr} (D : Apart5 Z TI TO i1 i2) :
    Turn P w K (.Tuple elts kk tpos) (Itzs K z b) [Z, TI, TO, i1, i2] Z (fun i h => IsZip h Z TI TO .none ∧ IsTupOf2 h TI (.ref i1) (.ref i2) ∧ (∃ a1 a2, IsTupOf2 h TO a1 a2) ∧ h.IsStrIter i1 (strIterType z) z t i ∧ h.IsListIter i2 b i) := by
  have walk : ∀ (X : Cx), X.prog = P → X.w = w → X.K = K → X.calm = true → ∀ (i : Nat) (pins : List (Addr × Obj)) (s : Shared) (σ : L2.St) (H : Hp) (ys : List V), Inv X pins σ H s → SqL K H b ys →
      (IsZip s.heap Z TI TO .none ∧ IsTupOf2 s.heap TI (.ref i1) (.ref i2) ∧ (∃ a1 a2, IsTupOf2 s.heap TO a1 a2) ∧ s.heap.IsStrIter i1 (strIterType z) z t i ∧ s.heap.IsListIter i2 b i) →
      ∃ its : List Value, Vals ys its ∧ ∃ Mid, WalksT P w X.A Z (Z :: TI :: TO :: ([i1] ++ [i2, b])) [Z, TO, i1, i2] (min z.cps.size its.toArray.size)
        (fun j vals => ∃ x1 x2, (∃ c u, z.cps[j]? = some c ∧ x1 = .str ⟨#[c]⟩ u) ∧ its.toArray[j]? = some x2 ∧ vals = #[x1, x2])
        (fun j h => IsZip h Z TI TO .none ∧ IsTupOf2 h TI (.ref i1) (.ref i2) ∧ (∃ a1 a2, IsTupOf2 h TO a1 a2) ∧ h.IsStrIter i1 (strIterType z) z t j ∧ (h.IsListIter i2 b j ∧ h.IsList b its.toArray)) Mid ∧ s.heap.IsList b its.toArray := by
    intro X hP hw hK hc i pins s σ H ys I hq st
    subst hP hw hK
    obtain ⟨hZ, hTI, ⟨x1, x2, hTO⟩, h1, h2⟩ := st
    obtain ⟨its, rv, p, hz⟩ := I.list hq
    obtain ⟨ob, eb, cb, _⟩ := id p.isList
    obtain ⟨o1, e1, c1, _⟩ := id h1
    obtain ⟨o2, e2, c2, _⟩ := id h2
    have n1 : Z ≠ b := cls_apart hZ eb (by rw [cb]; show Value.type "zip" ≠ Value.type "list"; decide)
    have n2 : TO ≠ b := cls_apart hTO eb (by rw [cb]; show Value.type "tuple" ≠ Value.type "list"; decide)
    have n3 : i2 ≠ b := cls_apart e2 eb (by rw [c2, cb]; decide)
    have n4 : i1 ≠ b := cls_apart e1 eb (by
      rw [c1, cb]
      unfold strIterType
      split <;> decide)
    have S : ZipSep2 Z TI TO i1 i2 [i1] [i2, b] :=
      { TIz := D.a1, TOz := D.a2, TITO := D.a3, TIi1 := D.a4, mem1 := by simp, zf1 := by simp [D.a6], Tf1 := by simp [D.a8], TIi2 := D.a5, mem2 := by simp, zf2 := by simp [D.a7, n1], Tf2 := by simp [D.a9, n2],
        sep1_2 := by simp [D.a10, n4], sep2_1 := by simp [D.a10.symm] }
    have hh : X.A.in1.handled = none := I.ok.hd hc
    exact ⟨its, rv, _, WalksT.zipD2 S (Draws.text hh i1 z t) (Draws.list hh i2 b n3.symm its.toArray), p.isList⟩
  refine turn_walks (wr := [Z, TO, i1, i2]) (by simp) (fun x h => ?_) ?_ ?_ ?_ ?_ ?_
  · have h' : x = Z ∨ x = TO ∨ x = i1 ∨ x = i2 := by simpa using h
    rcases h' with q | q | q | q <;> simp [q]
  · rintro i h ⟨hZ, hTI, ⟨x1, x2, hTO⟩, ⟨o1, e1, _, d1⟩, ⟨o2, e2, _, d2⟩⟩ c hc
    have e' : c = Z ∨ c = TI ∨ c = TO ∨ c = i1 ∨ c = i2 := by simpa using hc
    rcases e' with q | q | q | q | q
    · rw [q]; exact ⟨_, hZ, fun v y => nomatch y⟩
    · rw [q]; exact ⟨_, hTI, fun v y => nomatch y⟩
    · rw [q]; exact ⟨_, hTO, fun v y => nomatch y⟩
    · rw [q]; exact ⟨o1, e1, fun v y => by rw [d1] at y; cases y⟩
    · rw [q]; exact ⟨o2, e2, fun v y => by rw [d2] at y; cases y⟩
  · rintro i h h' ⟨hZ, hTI, ⟨x1, x2, hTO⟩, h1, h2⟩ k
    exact ⟨k Z (by simp) _ hZ, k TI (by simp) _ hTI, ⟨x1, x2, k TO (by simp) _ hTO⟩, let ⟨o, e, r⟩ := h1; ⟨o, k i1 (by simp) o e, r⟩, h2.at fun o q => k i2 (by simp) o q⟩
  · intro X hP hw hK hc i pins s σ H I st hg
    obtain ⟨c, ys, y, hcz, hq, hy⟩ := hg
    obtain ⟨its, rv, Mid, W, hl⟩ := walk X hP hw hK hc i pins s σ H ys I hq st
    obtain ⟨u, hu, ru⟩ := rv.get hy
    have hi1 : i < z.cps.size := (Array.getElem?_eq_some_iff.mp hcz).1
    have hi2 : i < its.toArray.size := by
      rw [List.size_toArray]
      exact (List.getElem?_eq_some_iff.mp hu).1
    obtain ⟨s1, s2, s3, s4, s5⟩ := st
    refine ⟨_, _, _, _, _, W, by omega, ⟨s1, s2, s3, s4, s5, hl⟩, fun h' q => ⟨q.1, q.2.1, q.2.2.1, q.2.2.2.1, q.2.2.2.2.1⟩, ?_⟩
    rintro vals ⟨x1, x2, ⟨c', u', hc', rfl⟩, hx2, rfl⟩
    have ec : c' = c := by
      rw [hcz] at hc'
      exact (Option.some.inj hc').symm
    have ex : x2 = u := by
      rw [List.getElem?_toArray, hu] at hx2
      exact (Option.some.inj hx2).symm
    subst ec ex
    refine ⟨[.str ⟨#[c']⟩, y], by rw [sizeLine_eq]; simp, .cons ⟨u', rfl⟩ (.cons ru .nil), fun T hT => ⟨T, c', y, rfl, hT, rfl, hcz, fun zs hz => ?_⟩⟩
    subst hK
    rw [I.list_inj hz hq]
    exact hy
  · intro X hP hw hK hc i pins s σ H I st hg
    obtain ⟨ys, hq, hx⟩ := hg
    obtain ⟨its, rv, Mid, W, hl⟩ := walk X hP hw hK hc i pins s σ H ys I hq st
    have hn : min z.cps.size its.toArray.size = i := by
      have e1 : its.toArray.size = ys.length := by rw [List.size_toArray]; exact rv.length.symm
      rw [e1, hx]
    obtain ⟨s1, s2, s3, s4, s5⟩ := st
    refine ⟨_, _, _, _, _, W, ?_⟩
    rw [hn]
    exact ⟨s1, s2, s3, s4, s5, hl⟩
  · intro A i s Q E st h
    exact wpAny_pyIter_zip st.1 h
def iZipSL (K : PySem.W.Frag) (ta : TA) : TI := fun σ H R => ta σ H fun vs H1 => ∃ z b ys, vs = [.str z, .ref b] ∧ SqL K H1 b ys ∧ R (Itzs K z b) H1
theorem pi_zipSL {X : Cx} {e1 e2 : Expr} {ta : TA} {p pos tpos : Pos} {elts : List Expr} {kk : Nat} (hg : Gl X "zip") (hm : X.mg "zip" = none) (ha : PA X [e1, e2] ta) (hs : starEach [e1, e2] X.env = [(false, eval e1 X.env), (false, eval e2 X.env)] := by rfl) (hs2 : starEach [e2] X.env = [(false, eval e2 X.env)] := by rfl) :
    PI X (.Tuple elts kk tpos) (.Call (.Name "zip" p) [e1, e2] [] pos) (iZipSL X.K ta) := by
  refine ⟨fun pins s σ H R I h => ?_⟩
  refine Call_ (ld_blt I hg hm boot_zip (PyProof.Rows.callWith_type1 (thn (ha.run pos pins s σ H _ I h) fun us s1 ⟨vs, H1, I1, r1, z, b, ys, ex, hq, q⟩ => ?_) (by rw [hs, hs2]) (by rw [hs2]; rfl)))
  subst ex
  obtain ⟨u1, u2, rfl, ru1, ru2⟩ := vals2 r1
  obtain ⟨t, rfl⟩ := ru1
  cases ru2
  obtain ⟨its, rv, p', hz⟩ := I1.list hq
  refine zip_begins2 (begins_text z t) (begins_list b its.toArray) True.intro p'.isList fun h' hZ hTI hTO h1 h2 hsz hk => wpAny_pyIter_zip hZ ?_
  have I2 : Inv X pins σ H1 { s1 with heap := h' } := I1.kept (t' := s1.toks) hk
  have D : Apart5 (s1.heap.objs.size + 4) (s1.heap.objs.size + 2) (s1.heap.objs.size + 3) s1.heap.objs.size (s1.heap.objs.size + 1) := by
    generalize s1.heap.objs.size = n
    exact ⟨show n + 2 ≠ n + 4 by omega, show n + 3 ≠ n + 4 by omega, show n + 2 ≠ n + 3 by omega, show n + 2 ≠ n by omega, show n + 2 ≠ n + 1 by omega, show n + 4 ≠ n by omega, show n + 4 ≠ n + 1 by omega, show n + 3 ≠ n by omega, show n + 3 ≠ n + 1 by omega, show n ≠ n + 1 by omega⟩
  refine ⟨_, [s1.heap.objs.size + 4, s1.heap.objs.size + 2, s1.heap.objs.size + 3, s1.heap.objs.size, s1.heap.objs.size + 1], _, _, H1, rfl, I2, turn_zipSL (t := t) D, ⟨hZ, hTI, ⟨_, _, hTO⟩, ⟨_, h1, rfl, rfl⟩, ⟨_, h2, rfl, rfl⟩⟩, fun c hc => ?_, q⟩
  have e' : c = s1.heap.objs.size + 4 ∨ c = s1.heap.objs.size + 2 ∨ c = s1.heap.objs.size + 3 ∨ c = s1.heap.objs.size ∨ c = s1.heap.objs.size + 1 := by simpa using hc
  have hle : s1.heap.objs.size ≤ c := by
    rcases e' with q | q | q | q | q <;> rw [q] <;> first | exact Nat.le_add_right _ _ | exact Nat.le_refl _
  exact I1.fpOk hle (I1.hok.fresh hle)
theorem walk_zipSL {K : PySem.W.Frag} {z : Str} {b : Addr} {ys : List V} : Walk (Itzs K z b) (min z.cps.size ys.length) (fun H => SqL K H b ys) (fun i H v H' => ∃ T c y, v = .ref T ∧ H T = none ∧ H' = upd H T (.tup [.str ⟨#[c]⟩, y]) ∧ z.cps[i]? = some c ∧ ys[i]? = some y) := by
  refine ⟨fun i _ hi q => ?_, fun _ q => ⟨ys, q, rfl⟩, fun i H v H' _ q y => ?_⟩
  · have h1 : i < z.cps.size := by omega
    have h2 : i < ys.length := by omega
    exact ⟨z.cps[i], ys, ys[i], by simp [h1], q, by simp [h2]⟩
  · obtain ⟨T, c, x, h1, h2, h3, h4, h5⟩ := y
    exact ⟨T, c, x, h1, h2, h3, h4, h5 ys q⟩
/-! ### C.__init__(x): a plain def read off a class -/
def tCls (C : Addr) (sp : Sp) (t : TA) : TE := fun σ H Q => t σ H fun vs H1 => sp vs H1 Q E0
theorem pe_clsm {X : Cx} {k j : Nat} {x m : Str} {f : Addr} {fd : FuncData} {ps : List Str} {sp : Sp} {e : Expr} {es : List Expr} {t : TA} {p apos pos : Pos} {pl : Sem Bool} (hm : X.mg x = some (.ref (ga X.K x))) (r : ClX.CRead X.K (ga X.K x) (.type "type"))
    (c : PySem.W.findCls X.K (.ref (ga X.K x)) (.type "type") m = some (.val (.ref f))) (kp : PySem.W.keepIn X.K (.ref f) = true) (F : FnOk X.prog X.w X.K X.mg X.base CX0 k f fd ps sp) (b : Binds X.K fd ps []) (hr : Room j X.A) (hk : k ≤ j := by decide) (ha : PA X (e :: es) t) (hg : Gl X x := by rfl) (hdb : (x == ("__debug__" : Str)) = false := by decide)
    (hst : starEach (e :: es) X.env = (false, eval e X.env) :: starEach es X.env := by rfl) (hpl : (backTo pos (starEach es X.env)).any (·.1) = false := by rfl)
    (ht : eval (.Call (.Attribute (.Name x p) m apos) (e :: es) [] pos) X.env = (do
      let ov ← eval (.Name x p) X.env
      standAt apos.atName
      let (f, first) ← holding [ov] (getMethod ov m pl)
      callWith pos f first (backTo pos (starEach (e :: es) X.env)) (backToKw pos (keywordEach [] X.env))) := by rfl) :
    PE X (.Call (.Attribute (.Name x p) m apos) (e :: es) [] pos) (tCls (ga X.K x) sp t) := by
  refine ⟨fun pins s σ H Q I h => ?_⟩
  refine PySem.W.methodCall_KW (pl := pl) (ld_glob I hg hm ?_ hdb) ht
  refine PySem.W.method_cls I.kIn r.ga (PySem.W.cls_value I.kIn r.rd c rfl ?_)
  refine PySem.W.callWith_K (first := []) (h₀ := X.base) I.ok.mod.kin kp (thn (ha.run pos pins _ σ H _ (I.tok _) h) fun us s2 ⟨vs, H2, I2, rv, q2⟩ => ⟨I2.kIn, ?_⟩) hst hpl
  exact run_fn (us := us) (vs := vs) (dvs := []) (ds := []) (F.mono hk) hr b .nil pass0 I2 rv (by rw [List.append_nil]; exact q2)
/-! ### the same rules with the written part by name: what a comprehension's block may say -/
section
variable {X : Cx}
theorem pg_tup2 (K : PySem.W.Frag) {a b : Expr} {t1 t2 : TG} {k : Nat} {pos : Pos} (h1 : PG X a t1) (h2 : PG X b t2) (hK : X.K = K := by rfl) (hc : X.calm = true := by rfl)
    (hs : (assignEach [a, b] X.env).map (·.2) = assign a X.env :: (assignEach [b] X.env).map (·.2) := by rfl) (hs2 : (assignEach [b] X.env).map (·.2) = assign b X.env :: (assignEach [] X.env).map (·.2) := by rfl)
    (hn : (assignEach [a, b] X.env).length = 2 := by rfl) (hst : (assignEach [a, b] X.env).findIdx? (·.1) = none := by rfl) : PG X (.Tuple [a, b] k pos) (gTup K 2 (gCons t1 (gCons t2 gNil))) := by
  subst hK
  exact pg_tup hc (pgs_cons h1 (pgs_cons h2 pgs_nil hs2) hs) hn hst
theorem ixK_list (K : PySem.W.Frag) (hK : X.K = K := by rfl) : IxR X (rIxL K) := by
  subst hK
  exact ix_list
theorem ixK_tup (K : PySem.W.Frag) (hK : X.K = K := by rfl) : IxR X (rIxT K) := by
  subst hK
  exact ix_tup
theorem opK_in (K : PySem.W.Frag) (hK : X.K = K := by rfl) : OpR X (compareOp .In) (rIn K false) := by
  subst hK
  exact op_in_seq
theorem opK_notIn (K : PySem.W.Frag) (hK : X.K = K := by rfl) : OpR X (compareOp .NotIn) (rIn K true) := by
  subst hK
  exact op_notIn_seq
def rLenS (K : PySem.W.Frag) : List V → Hp → VK → Prop := fun xs H Q => ∃ p ys, xs = [.ref p] ∧ (SqL K H p ys ∨ SqT K H p ys) ∧ Q (.int ys.length) H
theorem callK_len (K : PySem.W.Frag) (hK : X.K = K := by rfl) : CallR X (.builtin "len") (rLenS K) := by
  subst hK
  exact call_len_seq
/-- a list's method, the list tracked: its name, what it does -/
def tLM (r : V → List V → Hp → VK → Prop) (to : TE) (t : TA) : TE := fun σ H Q => to σ H fun x H1 => (∃ p xs, x = .ref p ∧ H1 p = some (.lst xs)) ∧ t σ H1 fun xs H2 => r x xs H2 Q
def tLM0 (r : V → List V → Hp → VK → Prop) (to : TE) : TE := fun σ H Q => to σ H fun x H1 => (∃ p xs, x = .ref p ∧ H1 p = some (.lst xs)) ∧ r x [] H1 Q
theorem PE.weak {e : Expr} {t t' : TE} (h : PE X e t) (w : ∀ σ H Q, t' σ H Q → t σ H Q) : PE X e t' := ⟨fun pins s σ H Q I q => h.run pins s σ H Q I (w σ H Q q)⟩
end
end K36
namespace K36
open L2 PySem
open PySem.Spec PyProof.Rows
/-! ### types of values -/
theorem kit_ii {K : PySem.W.Frag} : PySem.W.kitOne K (.type "int") (.type "int") = some true := kit_ty (by decide +kernel)
theorem kit_ib {K : PySem.W.Frag} : PySem.W.kitOne K (.type "int") (.type "bool") = some false := kit_ty (by decide +kernel)
theorem kit_ss {K : PySem.W.Frag} : PySem.W.kitOne K (.type "str") (.type "str") = some true := kit_ty (by decide +kernel)
theorem kit_tt {K : PySem.W.Frag} : PySem.W.kitOne K (.type "tuple") (.type "tuple") = some true := kit_ty (by decide +kernel)
theorem kit_ll {K : PySem.W.Frag} : PySem.W.kitOne K (.type "list") (.type "list") = some true := kit_ty (by decide +kernel)
theorem kit_tl {K : PySem.W.Frag} : PySem.W.kitOne K (.type "tuple") (.type "list") = some false := kit_ty (by decide +kernel)
theorem kit_t_lt {K : PySem.W.Frag} : PySem.W.kitAny K (.type "tuple") [.type "list", .type "tuple"] = some true :=
  kitAny_cons kit_tl (fun _ => kitAny_cons kit_tt (fun z => nomatch z) fun _ => rfl) fun z => nomatch z
theorem kit_l_lt {K : PySem.W.Frag} : PySem.W.kitAny K (.type "list") [.type "list", .type "tuple"] = some true :=
  kitAny_cons kit_ll (fun z => nomatch z) fun _ => rfl
theorem tyI {K : PySem.W.Frag} {H : Hp} {i : Int} : TyX K H (.int i) (.type "int") := .base (.int i)
theorem tyS {K : PySem.W.Frag} {H : Hp} {z : Str} : TyX K H (.str z) (.type "str") := .base (.str z)
theorem tyT {K : PySem.W.Frag} {H : Hp} {a : Addr} {xs : List V} (h : SqT K H a xs) : TyX K H (.ref a) (.type "tuple") := by
  rcases h with (h | ⟨o, h⟩) | ⟨o, its, n, h, hc, _⟩
  · exact .base (.tup h)
  · exact .fTuple h
  · exact .kTuple h hc
theorem tyL {K : PySem.W.Frag} {H : Hp} {a : Addr} {xs : List V} (h : SqL K H a xs) : TyX K H (.ref a) (.type "list") := by
  rcases h with (h | ⟨o, h⟩) | ⟨o, its, n, h, hc, _⟩
  · exact .base (.lst h)
  · exact .base (.frz h)
  · exact .kList h hc
theorem iteD {c : Prop} [Decidable c] {A B : Prop} (h1 : c → A) (h2 : ¬ c → B) : if decide c = true then A else B := by
  by_cases h : c
  · rw [if_pos (decide_eq_true h)]
    exact h1 h
  · rw [if_neg (by rw [decide_eq_false h]; exact Bool.false_ne_true)]
    exact h2 h
theorem iteN {c : Prop} [Decidable c] {A B : Prop} (h1 : c → B) (h2 : ¬ c → A) : if (!decide c) = true then A else B := by
  by_cases h : c
  · rw [decide_eq_true h]
    exact iteF (h1 h)
  · rw [decide_eq_false h]
    exact iteT (h2 h)
section
variable {P : Program} {w : World} {K : PySem.W.Frag} {mg : Str → Option Value} {base : Heap}
/-! ### sizes -/
def spWhole : Sp := fun vs H Q _ => ∃ i lo hi : Int, vs = [.int i, .int lo, .int hi] ∧ Q (.bl (decide (lo ≤ i ∧ i ≤ hi))) H
theorem ok_is_whole (T : Txt w K mg) : FnAt P w K mg base 1 "is_whole" ["thing", "least", "most"] spWhole := by
  refine FnAt.of T.f_is_whole sc_is_whole (fun _ _ _ _ _ _ us hl => match us, hl with | [_, _, _], _ => rfl) (fun vs H Q E h => ?_) (fun cdv A outer s H vs Q E hr h => ?_)
  · obtain ⟨i, lo, hi, rfl, _⟩ := h
    rfl
  · obtain ⟨i, lo, hi, rfl, q⟩ := h
    refine ⟨_, (pss_one (ps_ret (pe_and (pe_callB call_isi (by rfl) T.z_isinstance bb_isinstance (pa_cons (pv 0) (pa_cons (pe_bty T.z_int bb_int) pa_nil))) (pe_and (pe_not (pe_callB call_isi (by rfl) T.z_isinstance bb_isinstance (pa_cons (pv 0) (pa_cons (pe_bty T.z_bool bb_bool) pa_nil)))) (pe_one (pe_chain op_le op_le (pv 1) (pv 0) (pv 2))))))), ?_⟩
    refine ⟨_, rfl, _, _, _, _, true, rfl, .ty _, tyI, kit_ii, _, rfl, iteT ?_⟩
    refine ⟨_, rfl, _, _, _, _, false, rfl, .ty _, tyI, kit_ib, _, rfl, _, rfl, iteT ?_⟩
    refine ⟨_, rfl, _, rfl, _, _, rfl, rfl, _, rfl, iteD (fun h1 => ?_) (fun h1 => ?_)⟩
    · refine ⟨_, rfl, _, _, rfl, rfl, ?_⟩
      have e : decide (lo ≤ i ∧ i ≤ hi) = decide (i ≤ hi) := by simp [h1]
      rw [e] at q
      exact q
    · have e : decide (lo ≤ i ∧ i ≤ hi) = false := by simp [h1]
      rw [e] at q
      exact q
/-- is_whole's answer where the bounds hold -/
def spYes : Sp := fun vs H Q _ => ∃ i lo hi : Int, vs = [.int i, .int lo, .int hi] ∧ lo ≤ i ∧ i ≤ hi ∧ Q (.bl true) H
theorem FnAt.imp {k : Nat} {x : Str} {ps : List Str} {sp sp' : Sp} (F : FnAt P w K mg base k x ps sp) (h : ∀ vs H Q E, sp' vs H Q E → sp vs H Q E) : FnAt P w K mg base k x ps sp' := by
  obtain ⟨g, fd, F, b, kp⟩ := F
  exact ⟨g, fd, F.imp h, b, kp⟩
theorem ok_whole (T : Txt w K mg) : FnAt P w K mg base 1 "is_whole" ["thing", "least", "most"] spYes :=
  (ok_is_whole T).imp fun vs H Q E ⟨i, lo, hi, e, h1, h2, q⟩ => ⟨i, lo, hi, e, by rw [decide_eq_true ⟨h1, h2⟩]; exact q⟩
def spIsList (K : PySem.W.Frag) : Sp := fun vs H Q _ => ∃ a xs, vs = [.ref a] ∧ SqT K H a xs ∧ ∀ H', Same H H' → Q (.bl true) H'
theorem ok_is_list (T : Txt w K mg) : FnAt P w K mg base 1 "is_list" ["thing"] (spIsList K) := by
  refine FnAt.of T.f_is_list sc_is_list (fun _ _ _ _ _ _ us hl => match us, hl with | [_], _ => rfl) (fun vs H Q E h => ?_) (fun cdv A outer s H vs Q E hr h => ?_)
  · obtain ⟨a, xs, rfl, _⟩ := h
    rfl
  · obtain ⟨a, xs, rfl, ha, q⟩ := h
    refine ⟨_, (pss_one (ps_ret (pe_callB call_isiT (by rfl) T.z_isinstance bb_isinstance (pa_cons (pv 0) (pa_cons (pe_tup (pa_cons (pe_bty T.z_list bb_list) (pa_cons (pe_bty T.z_tuple bb_tuple) pa_nil))) pa_nil))))), ?_⟩
    refine ⟨_, rfl, by rw [sizeLine_eq]; decide, fun p hp => ?_⟩
    exact ⟨_, p, _, _, _, true, rfl, upd_same, .cons (.ty _) (.cons (.ty _) .nil), tyT ((same_new hp).tup ha), kit_t_lt, q _ (same_new hp)⟩
def spSide : Sp := fun vs H Q _ => vs = [.int 4] ∧ Q (.bl true) H
theorem ok_is_side (T : Txt w K mg) : FnAt P w K mg base 2 "is_side" ["thing"] spSide := by
  have g_is_whole : FnAt P w K mg base 1 _ _ spYes := ok_whole T
  refine FnAt.of T.f_is_side sc_is_side (fun _ _ _ _ _ _ us hl => match us, hl with | [_], _ => rfl) (fun vs H Q E h => ?_) (fun cdv A outer s H vs Q E hr h => ?_)
  · obtain ⟨rfl, _⟩ := h
    rfl
  · obtain ⟨rfl, q⟩ := h
    refine ⟨_, (pss_one (ps_ret (pe_and (pe_cal g_is_whole hr (by decide) (pa_cons (pv 0) (pa_cons (pe_gint T.c_LEAST_SIDE) (pa_cons (pe_gint T.c_MOST_SIDE) pa_nil)))) (pe_one (pe_cmpR op_eq (pe_op op_mod (pv 0) pe_int) pe_int (nomark _)))))), ?_⟩
    refine ⟨_, rfl, _, _, _, rfl, by decide, by decide, _, rfl, iteT ?_⟩
    exact ⟨_, rfl, _, _, rfl, rfl, by decide, rfl, q⟩
def spLetter : Sp := fun vs H Q _ => ∃ i : Int, vs = [.int i] ∧ 0 ≤ i ∧ i ≤ 255 ∧ Q (.bl true) H
theorem ok_is_letter (T : Txt w K mg) : FnAt P w K mg base 2 "is_letter" ["thing"] spLetter := by
  have g_is_whole : FnAt P w K mg base 1 _ _ spYes := ok_whole T
  refine FnAt.of T.f_is_letter sc_is_letter (fun _ _ _ _ _ _ us hl => match us, hl with | [_], _ => rfl) (fun vs H Q E h => ?_) (fun cdv A outer s H vs Q E hr h => ?_)
  · obtain ⟨i, rfl, _⟩ := h
    rfl
  · obtain ⟨i, rfl, h1, h2, q⟩ := h
    refine ⟨_, (pss_one (ps_ret (pe_cal g_is_whole hr (by decide) (pa_cons (pv 0) (pa_cons pe_int (pa_cons pe_int pa_nil)))))), ?_⟩
    exact ⟨_, rfl, _, _, _, rfl, h1, h2, q⟩
/-! ### choices -/
/-- how many reads a choice is of: the tuple's items -/
def kindsV (r : Int) : List V := if r = 0 then beside else if r = 1 then beside ++ [.str "as", .str "moved"] else beside ++ [.str "as", .str "moved", .str "both"]
def spKinds (K : PySem.W.Frag) : Sp := fun vs H Q _ => ∃ r : Int, vs = [.int r] ∧ (r = 0 ∨ r = 1 ∨ r = 2) ∧ ∀ p H', Same H H' → SqT K H' p (kindsV r) → Q (.ref p) H'
theorem ok_kinds_for (T : Txt w K mg) : FnAt P w K mg base 1 "kinds_for" ["reads"] (spKinds K) := by
  refine FnAt.of T.f_kinds_for sc_kinds_for (fun _ _ _ _ _ _ us hl => match us, hl with | [_], _ => rfl) (fun vs H Q E h => ?_) (fun cdv A outer s H vs Q E hr h => ?_)
  · obtain ⟨r, rfl, _⟩ := h
    rfl
  · obtain ⟨r, rfl, h1, q⟩ := h
    refine ⟨_, (pss_one (ps_ret (pe_op op_catA (pe_gref T.c_BESIDE.1) (pe_slice sl_tupA (pe_tup (pa_cons pe_str (pa_cons pe_str (pa_cons pe_str pa_nil)))) po_none (po_some (pe_ix (ixK_list K) (pe_lst (pa_cons pe_int (pa_cons pe_int (pa_cons pe_int pa_nil)))) (pv 0) (fun _ _ => rfl))))))), ?_⟩
    refine ⟨by rw [sizeLine_eq]; decide, fun t ht => ⟨by rw [sizeLine_eq]; decide, fun l hl => ?_⟩⟩
    have s1 : Same H (upd H t (.tup [.str "as", .str "moved", .str "both"])) := same_new ht
    have s2 : Same H (upd (upd H t (.tup [.str "as", .str "moved", .str "both"])) l (.lst [.int 0, .int 2, .int 3])) := s1.new hl
    have et : SqT K (upd (upd H t (.tup [.str "as", .str "moved", .str "both"])) l (.lst [.int 0, .int 2, .int 3])) t [.str "as", .str "moved", .str "both"] := (same_new hl).tup (.of upd_same)
    rcases h1 with rfl | rfl | rfl
    · refine ⟨_, rfl, l, _, 0, .int 0, rfl, rfl, .of upd_same, rfl, 0, rfl, t, _, rfl, et, fun z => absurd z (by decide +kernel), fun _ p hp => ?_⟩
      refine ⟨_, p, _, _, rfl, rfl, T.c_BESIDE.2.seq _, .of upd_same, by rw [sizeLine_eq]; decide +kernel, fun z => absurd z (by decide), fun _ _ => ?_, fun _ z => absurd rfl z⟩
      exact q _ _ (s2.new hp) (T.c_BESIDE.2.seq _)
    · refine ⟨_, rfl, l, _, 1, .int 2, rfl, rfl, .of upd_same, rfl, 2, rfl, t, _, rfl, et, fun z => absurd z (by decide +kernel), fun _ p hp => ?_⟩
      refine ⟨_, p, _, _, rfl, rfl, T.c_BESIDE.2.seq _, .of upd_same, by rw [sizeLine_eq]; decide +kernel, fun z => absurd z (by decide), fun _ z => absurd z (by decide +kernel), fun _ _ u hu => ?_⟩
      exact q _ _ ((s2.new hp).new hu) (.of upd_same)
    · refine ⟨_, rfl, l, _, 2, .int 3, rfl, rfl, .of upd_same, rfl, 3, rfl, t, _, rfl, et, fun _ => ?_, fun z => absurd (by decide +kernel) z⟩
      refine ⟨_, t, _, _, rfl, rfl, T.c_BESIDE.2.seq _, et, by rw [sizeLine_eq]; decide +kernel, fun z => absurd z (by decide), fun _ z => absurd z (by decide +kernel), fun _ _ u hu => ?_⟩
      exact q _ _ (s2.new hu) (.of upd_same)
/-- the one choice of each kind that is met -/
def ChoiceAt (K : PySem.W.Frag) (H : Hp) (r : Int) (c : Addr) : Prop := (r = 0 ∧ ∃ q, SqT K H c [.str "flat", .ref q] ∧ SqT K H q zeros) ∨ ((r = 1 ∨ r = 2) ∧ SqT K H c [.str "as", .int 0])
theorem ChoiceAt.same {H H' : Hp} {r : Int} {c : Addr} (h : ChoiceAt K H r c) (s : Same H H') : ChoiceAt K H' r c := by
  rcases h with ⟨e, q, h1, h2⟩ | ⟨e, h1⟩
  · exact .inl ⟨e, q, s.tup h1, s.tup h2⟩
  · exact .inr ⟨e, s.tup h1⟩
theorem t_yes {σ : L2.St} {H : Hp} {Q : Bool → Hp → Prop} (h : Q true H) : tYes σ H Q := h
theorem pe_never {X : Cx} {e : Expr} : PE X e (fun _ _ _ => False) := ⟨fun _ _ _ _ _ _ h => h.elim⟩
theorem zeros_get {i : Nat} {x : V} (h : zeros[i]? = some x) : x = .int 0 := by
  have h2 := List.mem_of_getElem? h
  unfold zeros at h2
  exact (List.mem_replicate.mp h2).2
def spRest (K : PySem.W.Frag) : Sp := fun vs H Q _ => ∃ a, vs = [.ref a] ∧ SqT K H a zeros ∧ ∀ H', Same H H' → Q (.bl true) H'
theorem ok_is_rest (T : Txt w K mg) : FnAt P w K mg base 2 "is_rest" ["thing"] (spRest K) := by
  have g_is_whole : FnAt P w K mg base 1 _ _ spYes := ok_whole T
  refine FnAt.of T.f_is_rest sc_is_rest (fun _ _ _ _ _ _ us hl => match us, hl with | [_], _ => rfl) (fun vs H Q E h => ?_) (fun cdv A outer s H vs Q E hr h => ?_)
  · obtain ⟨a, rfl, _⟩ := h
    rfl
  · obtain ⟨a, rfl, ha, q⟩ := h
    refine ⟨_, (pss_cons (ps_if (PW.pt (pw_or (pt_not (pt_val (pe_callB call_isi (by rfl) T.z_isinstance bb_isinstance (pa_cons (pv 0) (pa_cons (pe_bty T.z_tuple bb_tuple) pa_nil))))) (pw_or1 (pt_cmpR op_ne (pe_callB (callK_len K) (by rfl) T.z_len PySem.boot_len (pa_cons (pv 0) pa_nil)) pe_int (nomark _))))) (pss_one (ps_ret pe_bl)) pss_nil)
      (pss_one (ps_ret (pe_callB (cr_all rfl) (by rfl) T.z_all bb_all (pa_cons (pe_lc (own := [("number", 1)]) rfl sc_is_rest.nd (pi_tup (pv 0)) (blkOk_by (own := [("number", 1)]) (N := N_is_rest) (sc := defScope s_is_rest) (by decide +kernel)) (fun _ _ _ _ _ => (pg_name (i := 1) sc_is_rest.nd rfl (Or.inl rfl))) (fun _ _ _ _ _ => pts_nil) (fun _ _ _ _ _ => (pe_cal g_is_whole hr (by decide) (pa_cons (pv 1) (pa_cons (pe_un un_neg (pe_gint T.c_MOST_REST)) (pa_cons (pe_gint T.c_MOST_REST) pa_nil)))))) pa_nil))))), ?_⟩
    refine ⟨_, rfl, _, _, _, _, true, rfl, .ty _, tyT ha, kit_tt, _, rfl, iteF ?_⟩
    refine ⟨_, rfl, a, _, rfl, .inr ha, rfl, _, rfl, iteNS rfl ?_⟩
    refine ⟨_, rfl, a, rfl, ⟨_, ha⟩, fun D hD => ?_⟩
    refine lc_it walk_tup (fun i H' => Same H H' ∧ H' D = some (.lst (List.replicate i (.bl true)))) ⟨same_new hD, upd_same⟩ (fun i H' _ h => h.1.tup ha) ?_ ?_
    · rintro i x H' _ hi ⟨s1, d1⟩ ⟨rfl, hx⟩
      obtain rfl := zeros_get hx
      refine ⟨rfl, t_yes (iteT ?_)⟩
      refine ⟨_, rfl, _, rfl, _, _, _, rfl, by decide, by decide, _, d1, ?_, ?_, ?_⟩
      · rw [List.length_replicate]
        exact small1000 (by have : zeros.length = 16 := rfl; omega)
      · intro b o e
        rw [upd_ne (ne_of_none e hD)]
        exact s1 b o e
      · rw [upd_same, List.replicate_succ']
    · rintro H' ⟨s1, d1⟩
      exact ⟨D, List.replicate 16 true, rfl, .of d1, q H' s1⟩
def spPart (K : PySem.W.Frag) : Sp := fun vs H Q _ => (∃ (a : Addr) (r : Int), vs = [.str "s", .ref a, .int r] ∧ SqT K H a zeros ∧ ∀ H', Same H H' → Q (.bl true) H') ∨ ∃ r : Int, vs = [.str "r", .int 0, .int r] ∧ 1 ≤ r ∧ Q (.bl true) H
theorem ok_is_part (T : Txt w K mg) : FnAt P w K mg base 3 "is_part" ["sign", "thing", "reads"] (spPart K) := by
  have g_is_whole : FnAt P w K mg base 1 _ _ spYes := ok_whole T
  have g_is_rest : FnAt P w K mg base 2 _ _ (spRest K) := ok_is_rest T
  refine FnAt.of T.f_is_part sc_is_part (fun _ _ _ _ _ _ us hl => match us, hl with | [_, _, _], _ => rfl) (fun vs H Q E h => ?_) (fun cdv A outer s H vs Q E hr h => ?_)
  · rcases h with ⟨a, r, rfl, _⟩ | ⟨r, rfl, _⟩ <;> rfl
  · refine ⟨_, (pss_cons (ps_if (pt_cmpR op_eq (pv 0) pe_str (nomark _)) (pss_one (ps_ret (pe_cal g_is_whole hr (by decide) (pa_cons (pv 1) (pa_cons pe_int (pa_cons (pe_op op_sub (pv 2) pe_int) pa_nil)))))) pss_nil)
      (pss_one (ps_ret (pe_ifExp (pt_cmpR op_eq (pv 0) pe_str (nomark _)) pe_never (pe_cal g_is_rest hr (by decide) (pa_cons (pv 1) pa_nil)))))), ?_⟩
    rcases h with ⟨a, r, rfl, ha, q⟩ | ⟨r, rfl, h1, q⟩
    · refine ⟨_, rfl, rfl, _, rfl, iteD (fun z => absurd z (by decide +kernel)) fun _ => ?_⟩
      refine ⟨_, rfl, rfl, _, rfl, iteD (fun z => absurd z (by decide +kernel)) fun _ => ?_⟩
      exact ⟨_, rfl, a, rfl, ha, q⟩
    · refine ⟨_, rfl, rfl, _, rfl, iteT ?_⟩
      exact ⟨_, rfl, _, rfl, _, _, rfl, rfl, _, _, _, rfl, by decide, by omega, q⟩
end
end K36
namespace K36
open L2 PySem
open PySem.Spec PyProof.Rows
theorem dp_ints {K : PySem.W.Frag} {H : Hp} : ∀ ns : List Int, DpAll K H (ns.map V.int) (ns.map PyData.int)
  | [] => .nil
  | n :: r => .cons (.int n) (dp_ints r)
theorem dp_zeros {K : PySem.W.Frag} {H : Hp} : DpAll K H zeros ((List.replicate 16 (0 : Int)).map PyData.int) := dp_ints (List.replicate 16 0)
theorem str_s : (⟨#[115]⟩ : Str) = "s" := by decide +kernel
theorem str_r : (⟨#[114]⟩ : Str) = "r" := by decide +kernel
theorem sign_s {c : Nat} {i : Nat} (h : ("s" : Str).cps[i]? = some c) : (⟨#[c]⟩ : Str) = "s" := by
  have e : ("s" : Str).cps = #[115] := by decide +kernel
  rw [e] at h
  have hi : i < 1 := (Array.getElem?_eq_some_iff.mp h).1
  have : i = 0 := by omega
  subst this
  have h2 : 115 = c := Option.some.inj h
  rw [← h2]
  exact str_s
theorem sign_r {c : Nat} {i : Nat} (h : ("r" : Str).cps[i]? = some c) : (⟨#[c]⟩ : Str) = "r" := by
  have e : ("r" : Str).cps = #[114] := by decide +kernel
  rw [e] at h
  have hi : i < 1 := (Array.getElem?_eq_some_iff.mp h).1
  have : i = 0 := by omega
  subst this
  have h2 : 114 = c := Option.some.inj h
  rw [← h2]
  exact str_r
theorem one_at {α : Type} {x y : α} {i : Nat} (h : [x][i]? = some y) : i = 0 ∧ y = x := by
  cases i with
  | zero => exact ⟨rfl, (Option.some.inj h).symm⟩
  | succ n => simp at h
section
variable {P : Program} {w : World} {K : PySem.W.Frag} {mg : Str → Option Value} {base : Heap}
def spChoice (K : PySem.W.Frag) : Sp := fun vs H Q _ => ∃ (c : Addr) (r : Int), vs = [.ref c, .int r] ∧ ChoiceAt K H r c ∧ ∀ H', Same H H' → Q (.bl true) H'
theorem ok_is_choice (T : Txt w K mg) : FnAt P w K mg base 4 "is_choice" ["thing", "reads"] (spChoice K) := by
  have g_kinds_for : FnAt P w K mg base 1 _ _ (spKinds K) := ok_kinds_for T
  have g_is_part : FnAt P w K mg base 3 _ _ (spPart K) := ok_is_part T
  refine FnAt.of T.f_is_choice sc_is_choice (fun _ _ _ _ _ _ us hl => match us, hl with | [_, _], _ => rfl) (fun vs H Q E h => ?_) (fun cdv A outer s H vs Q E hr h => ?_)
  · obtain ⟨c, r, rfl, _⟩ := h
    rfl
  · obtain ⟨c, r, rfl, hc, q⟩ := h
    refine ⟨_, (pss_cons (ps_if (PW.pt (pw_or (pt_not (pt_val (pe_callB call_isi (by rfl) T.z_isinstance bb_isinstance (pa_cons (pv 0) (pa_cons (pe_bty T.z_tuple bb_tuple) pa_nil))))) (pw_or1 (pt_cmpR (op_eqD hr.units) (pv 0) (pe_tup pa_nil) (nomark _))))) (pss_one (ps_ret pe_bl)) pss_nil)
      (pss_cons (ps_asg (pv 0) (pg_star1 rfl (pg_name (i := 2) sc_is_choice.nd rfl (Or.inl rfl)) (pg_name (i := 3) sc_is_choice.nd rfl (Or.inl rfl))))
      (pss_cons (ps_if (PW.pt (pw_or (pt_not (pt_val (pe_callB call_isi (by rfl) T.z_isinstance bb_isinstance (pa_cons (pv 2) (pa_cons (pe_bty T.z_str bb_str) pa_nil))))) (pw_or (pt_cmpR (opK_notIn K) (pv 2) (pe_cal g_kinds_for hr (by decide) (pa_cons (pv 1) pa_nil)) (by rfl)) (pw_or1 (pt_cmpR op_ne (pe_callB (callK_len K) (by rfl) T.z_len PySem.boot_len (pa_cons (pv 3) pa_nil)) (pe_callB call_len_str (by rfl) T.z_len PySem.boot_len (pa_cons (pe_ix ix_kdict (pe_gref T.c_FORMS.1) (pv 2) (fun _ _ => rfl)) pa_nil)) (nomark _)))))) (pss_one (ps_ret pe_bl)) pss_nil)
      (pss_one (ps_ret (pe_callB (cr_all rfl) (by rfl) T.z_all bb_all (pa_cons (pe_lc (own := [("sign", 4), ("part", 5)]) rfl sc_is_choice.nd (pi_zipSL (by rfl) T.z_zip (pa_cons (pe_ix ix_kdict (pe_gref T.c_FORMS.1) (pv 2) (fun _ _ => rfl)) (pa_cons (pv 3) pa_nil))) (blkOk_by (own := [("sign", 4), ("part", 5)]) (N := N_is_choice) (sc := defScope s_is_choice) (by decide +kernel)) (fun _ _ _ _ _ => (pg_tup2 K (pg_name (i := 4) sc_is_choice.nd rfl (Or.inl rfl)) (pg_name (i := 5) sc_is_choice.nd rfl (Or.inl rfl)))) (fun _ _ _ _ _ => pts_nil) (fun _ _ _ _ _ => (pe_cal g_is_part hr (by decide) (pa_cons (pv 4) (pa_cons (pv 5) (pa_cons (pv 1) pa_nil)))))) pa_nil))))))), ?_⟩
    rcases hc with ⟨rfl, z, hc, hz⟩ | ⟨h12, hc⟩
    · refine ⟨_, rfl, _, _, _, _, true, rfl, .ty _, tyT hc, kit_tt, _, rfl, iteF ?_⟩
      refine ⟨_, rfl, by rw [sizeLine_eq]; decide, fun p hp => ?_⟩
      have s1 : Same H (upd H p (.tup [])) := same_new hp
      refine ⟨_, _, .tup (s1.tup hc) (.cons (.str _) (.cons (.tup (s1.tup hz) dp_zeros) .nil)), .tup (.of upd_same) .nil, by decide +kernel, by decide +kernel, _, rfl, iteF ?_⟩
      refine ⟨_, rfl, c, _, _, rfl, s1.tup hc, (show 1 ≤ 1000 by decide), fun D hD => ?_⟩
      have s2 : Same H (upd (upd H p (.tup [])) D (.lst [.ref z])) := s1.new hD
      refine ⟨_, rfl, _, _, _, _, true, rfl, .ty _, tyS, kit_ss, _, rfl, iteF ?_⟩
      refine ⟨_, rfl, _, rfl, 0, rfl, .inl rfl, fun p2 H2 s3 hk => ?_⟩
      have eD : H2 D = some (.lst [.ref z]) := s3 _ _ upd_same
      refine ⟨p2, _, rfl, .inr hk, rfl, by decide +kernel, _, rfl, ?_⟩
      rw [show inV (.str "flat") (kindsV 0) = true by decide +kernel]
      refine iteF ?_
      refine ⟨_, rfl, D, _, rfl, .inl (.of eD), _, rfl, _, _, _, rfl, rfl, T.c_FORMS.2.1, _, rfl, by rw [sizeLine_eq]; decide +kernel, rfl, _, rfl, ?_⟩
      refine iteN (fun _ => ?_) (fun n => absurd (show V.int ((1 : Nat) : Int) = V.int ((Str.length "s" : Nat) : Int) by decide +kernel) n)
      refine ⟨_, rfl, _, _, _, rfl, rfl, T.c_FORMS.2.1, _, rfl, _, D, _, rfl, .of eD, fun D2 hD2 => ?_⟩
      refine lc_it walk_zipSL (fun i H' => Same H2 H' ∧ H' D2 = some (.lst (List.replicate i (.bl true)))) ⟨same_new hD2, upd_same⟩ (fun i H' _ h => .of (h.1 _ _ eD)) ?_ ?_
      · rintro i x H' H3 hi ⟨t1, d1⟩ ⟨T1, ch, y, rfl, nT, rfl, hch, hy⟩
        obtain ⟨rfl, rfl⟩ := one_at hy
        have ech := sign_s hch
        have t2 : Same H' (upd H' T1 (.tup [.str ⟨#[ch]⟩, .ref z])) := same_new nT
        refine ⟨T1, _, rfl, .of upd_same, rfl, _, _, rfl, _, _, rfl, rfl, rfl, t_yes (iteT ?_)⟩
        refine ⟨_, rfl, _, rfl, _, rfl, .inl ⟨z, 0, by rw [ech]; rfl, ((s2.trans s3).trans (t1.trans t2)).tup hz, fun H4 t3 => ?_⟩⟩
        refine ⟨_, t3 _ _ (t2 _ _ d1), by rw [List.length_replicate]; exact small1000 (by decide), ?_, ?_⟩
        · intro b o e
          rw [upd_ne (ne_of_none e hD2)]
          exact t3 _ _ (t2 _ _ (t1 _ _ e))
        · rw [upd_same]
          rfl
      · rintro H' ⟨t1, d1⟩
        have hn : min ("s" : Str).cps.size [V.ref z].length = 1 := by
          show min ("s" : Str).cps.size 1 = 1
          decide +kernel
        rw [hn] at d1
        exact ⟨D2, [true], rfl, .of d1, q H' ((s2.trans s3).trans t1)⟩
    · refine ⟨_, rfl, _, _, _, _, true, rfl, .ty _, tyT hc, kit_tt, _, rfl, iteF ?_⟩
      refine ⟨_, rfl, by rw [sizeLine_eq]; decide, fun p hp => ?_⟩
      have s1 : Same H (upd H p (.tup [])) := same_new hp
      refine ⟨_, _, .tup (s1.tup hc) (.cons (.str _) (.cons (.int _) .nil)), .tup (.of upd_same) .nil, by decide +kernel, by decide +kernel, _, rfl, iteF ?_⟩
      refine ⟨_, rfl, c, _, _, rfl, s1.tup hc, by decide, fun D hD => ?_⟩
      have s2 : Same H (upd (upd H p (.tup [])) D (.lst [.int 0])) := s1.new hD
      refine ⟨_, rfl, _, _, _, _, true, rfl, .ty _, tyS, kit_ss, _, rfl, iteF ?_⟩
      refine ⟨_, rfl, _, rfl, r, rfl, .inr h12, fun p2 H2 s3 hk => ?_⟩
      have eD : H2 D = some (.lst [.int 0]) := s3 _ _ upd_same
      refine ⟨p2, _, rfl, .inr hk, rfl, by rcases h12 with rfl | rfl <;> decide +kernel, _, rfl, ?_⟩
      rw [show inV (.str "as") (kindsV r) = true by rcases h12 with rfl | rfl <;> decide +kernel]
      refine iteF ?_
      refine ⟨_, rfl, D, _, rfl, .inl (.of eD), _, rfl, _, _, _, rfl, rfl, T.c_FORMS.2.2, _, rfl, by rw [sizeLine_eq]; decide +kernel, rfl, _, rfl, ?_⟩
      refine iteN (fun _ => ?_) (fun n => absurd (by decide +kernel) n)
      refine ⟨_, rfl, _, _, _, rfl, rfl, T.c_FORMS.2.2, _, rfl, _, D, _, rfl, .of eD, fun D2 hD2 => ?_⟩
      refine lc_it walk_zipSL (fun i H' => Same H2 H' ∧ H' D2 = some (.lst (List.replicate i (.bl true)))) ⟨same_new hD2, upd_same⟩ (fun i H' _ h => .of (h.1 _ _ eD)) ?_ ?_
      · rintro i x H' H3 hi ⟨t1, d1⟩ ⟨T1, ch, y, rfl, nT, rfl, hch, hy⟩
        obtain ⟨rfl, rfl⟩ := one_at hy
        have ech := sign_r hch
        have t2 : Same H' (upd H' T1 (.tup [.str ⟨#[ch]⟩, .int 0])) := same_new nT
        refine ⟨T1, _, rfl, .of upd_same, rfl, _, _, rfl, _, _, rfl, rfl, rfl, t_yes (iteT ?_)⟩
        refine ⟨_, rfl, _, rfl, _, rfl, .inr ⟨r, by rw [ech]; rfl, by omega, ?_⟩⟩
        refine ⟨_, t2 _ _ d1, by rw [List.length_replicate]; exact small1000 (by decide), ?_, ?_⟩
        · intro b o e
          rw [upd_ne (ne_of_none e hD2)]
          exact t2 _ _ (t1 _ _ e)
        · rw [upd_same]
          rfl
      · rintro H' ⟨t1, d1⟩
        have hn : min ("r" : Str).cps.size [V.int 0].length = 1 := by decide +kernel
        rw [hn] at d1
        exact ⟨D2, [true], rfl, .of d1, q H' ((s2.trans s3).trans t1)⟩
def spChoices (K : PySem.W.Frag) : Sp := fun vs H Q _ => ∃ (a c : Addr) (r : Int), vs = [.ref a, .int 1, .int r] ∧ SqT K H a [.ref c] ∧ ChoiceAt K H r c ∧ ∀ H', Same H H' → Q (.bl true) H'
theorem ok_are_choices (T : Txt w K mg) : FnAt P w K mg base 5 "are_choices" ["thing", "many", "reads"] (spChoices K) := by
  have g_is_choice : FnAt P w K mg base 4 _ _ (spChoice K) := ok_is_choice T
  refine FnAt.of T.f_are_choices sc_are_choices (fun _ _ _ _ _ _ us hl => match us, hl with | [_, _, _], _ => rfl) (fun vs H Q E h => ?_) (fun cdv A outer s H vs Q E hr h => ?_)
  · obtain ⟨a, c, r, rfl, _⟩ := h
    rfl
  · obtain ⟨a, c, r, rfl, ha, hc, q⟩ := h
    refine ⟨_, (pss_cons (ps_if (PW.pt (pw_or (pt_not (pt_val (pe_callB call_isi (by rfl) T.z_isinstance bb_isinstance (pa_cons (pv 0) (pa_cons (pe_bty T.z_tuple bb_tuple) pa_nil))))) (pw_or1 (pt_cmpR op_ne (pe_callB (callK_len K) (by rfl) T.z_len PySem.boot_len (pa_cons (pv 0) pa_nil)) (pv 1) (nomark _))))) (pss_one (ps_ret pe_bl)) pss_nil)
      (pss_one (ps_ret (pe_callB (cr_all rfl) (by rfl) T.z_all bb_all (pa_cons (pe_lc (own := [("one", 3)]) rfl sc_are_choices.nd (pi_tup (pv 0)) (blkOk_by (own := [("one", 3)]) (N := N_are_choices) (sc := defScope s_are_choices) (by decide +kernel)) (fun _ _ _ _ _ => (pg_name (i := 3) sc_are_choices.nd rfl (Or.inl rfl))) (fun _ _ _ _ _ => pts_nil) (fun _ _ _ _ _ => (pe_cal g_is_choice hr (by decide) (pa_cons (pv 3) (pa_cons (pv 2) pa_nil))))) pa_nil))))), ?_⟩
    refine ⟨_, rfl, _, _, _, _, true, rfl, .ty _, tyT ha, kit_tt, _, rfl, iteF ?_⟩
    refine ⟨_, rfl, a, _, rfl, .inr ha, _, rfl, rfl, _, rfl, iteNS rfl ?_⟩
    refine ⟨_, rfl, a, rfl, ⟨_, ha⟩, fun D hD => ?_⟩
    refine lc_it walk_tup (fun i H' => Same H H' ∧ H' D = some (.lst (List.replicate i (.bl true)))) ⟨same_new hD, upd_same⟩ (fun i H' _ h => h.1.tup ha) ?_ ?_
    · rintro i x H' _ hi ⟨s1, d1⟩ ⟨rfl, hx⟩
      obtain ⟨rfl, rfl⟩ := one_at hx
      refine ⟨rfl, t_yes (iteT ?_)⟩
      refine ⟨_, rfl, _, rfl, c, r, rfl, hc.same s1, fun H4 s4 => ?_⟩
      refine ⟨_, s4 _ _ d1, by rw [List.length_replicate]; exact small1000 (by decide), ?_, ?_⟩
      · intro b o e
        rw [upd_ne (ne_of_none e hD)]
        exact s4 _ _ (s1 b o e)
      · rw [upd_same]
        rfl
    · rintro H' ⟨s1, d1⟩
      exact ⟨D, [true], rfl, .of d1, q H' s1⟩
end
end K36
namespace K36
open L2 PySem
open PySem.Spec PyProof.Rows
theorem line_le (n : Nat) (h : n ≤ 1000 := by decide) : n ≤ sizeLine := Nat.le_of_lt (small1000 h)
/-- the lower digits, the least first -/
def digs (b : Int) : Int → Nat → List Int
  | _, 0 => []
  | n, k + 1 => (n % b) :: digs b (n / b) k
theorem digs_len (b : Int) : ∀ (k : Nat) (n : Int), (digs b n k).length = k
  | 0, _ => rfl
  | k + 1, n => by
    show (digs b (n / b) k).length + 1 = k + 1
    rw [digs_len b k]
section
variable {P : Program} {w : World} {K : PySem.W.Frag} {mg : Str → Option Value} {base : Heap}
/-- hands back something, leaves all as it was -/
def spFirst (K : PySem.W.Frag) : Sp := fun vs H Q _ => ∃ (c : Addr) (g : V) (r : Int), vs = [.ref c, g] ∧ ChoiceAt K H r c ∧ ∀ v H', Same H H' → Q v H'
theorem ok_first_vector (T : Txt w K mg) : FnAt P w K mg base 1 "first_vector" ["choice", "guess"] (spFirst K) := by
  refine FnAt.of T.f_first_vector sc_first_vector (fun _ _ _ _ _ _ us hl => match us, hl with | [_, _], _ => rfl) (fun vs H Q E h => ?_) (fun cdv A outer s H vs Q E hr h => ?_)
  · obtain ⟨c, g, r, rfl, _⟩ := h
    rfl
  · obtain ⟨c, g, r, rfl, hc, q⟩ := h
    have hu := hu_of hr
    refine ⟨_, (pss_cons (ps_set (i := 2) sc_first_vector.nd rfl (Or.inl rfl) (pe_ix (ixK_tup K) (pv 0) pe_int (fun _ _ => rfl)))
      (pss_cons (ps_if (pt_cmpR op_eq (pv 2) pe_str (nomark _)) (pss_one (ps_ret (pv 1))) pss_nil)
      (pss_one (ps_ret (pe_ix (ixK_tup K) (pe_dget2 hu (pe_disp (pps_cons pe_str (pe_slice sl_tupA (pv 0) (po_some pe_int) (po_some pe_int)) (pps_cons pe_str (pe_slice sl_tupA (pv 0) (po_some pe_int) (po_some pe_int)) pps_nil)) (by rfl) (by rfl) (fun z => by cases z) (by decide)) (pv 2) (pe_tup (pa_cons pe_non pa_nil)) ⟨rfl, rfl, rfl, rfl⟩) pe_int (fun _ _ => rfl)))))), ?_⟩
    rcases hc with ⟨rfl, z, hc, hz⟩ | ⟨h12, hc⟩
    · refine ⟨_, rfl, c, _, 0, .str "flat", rfl, rfl, hc, rfl, ?_⟩
      refine ⟨_, rfl, rfl, _, rfl, iteD (fun z => absurd z (by decide +kernel)) fun _ => ?_⟩
      intro p hp
      have s1 : Same H (upd H p (.dK [])) := same_new hp
      refine ⟨_, rfl, 2, rfl, 3, rfl, c, _, rfl, s1.tup hc, fun z => absurd z.1 (show ¬ HT.sIx 2 0 (some 2) = 0 by decide +kernel), fun _ t ht => ?_⟩
      have s2 := s1.new (o := .tup (cutV [.str "flat", .ref z] (some 2) (some 3))) ht
      refine ⟨_, rfl, 1, rfl, 2, rfl, c, _, rfl, s2.tup hc, fun z => absurd z.1 (show ¬ HT.sIx 2 0 (some 1) = 0 by decide +kernel), fun _ t2 ht2 => ?_⟩
      have s3 := s2.new (o := .tup (cutV [.str "flat", .ref z] (some 1) (some 2))) ht2
      have np : t ≠ p := (ne_of_none upd_same ht).symm
      have np2 : t2 ≠ p := (ne_of_none ((same_new ht) _ _ upd_same) ht2).symm
      refine ⟨by rw [upd_ne np2.symm, upd_ne np.symm, upd_same], [(Sum.inr "moved", .ref t), (Sum.inr "both", .ref t2)], rfl, (show 2 ≤ 15 by decide), ?_⟩
      have s4 : Same H (upd (upd (upd (upd H p (.dK [])) t (.tup (cutV [.str "flat", .ref z] (some 2) (some 3)))) t2 (.tup (cutV [.str "flat", .ref z] (some 1) (some 2)))) p (.dK (mergeK [] [(Sum.inr "moved", .ref t), (Sum.inr "both", .ref t2)]))) := fun b o e => by
        rw [upd_ne (ne_of_none e hp)]
        exact s3 b o e
      refine ⟨p, rfl, .inl ⟨_, .inl upd_same⟩, _, rfl, by rw [sizeLine_eq]; decide, fun u hu2 => ?_⟩
      have s5 := s4.new (o := .tup [.non]) hu2
      refine ⟨_, DGet.k (k := Sum.inr "flat") ((same_new hu2) _ _ upd_same), u, [.non], 0, .non, ?_, rfl, .of upd_same, rfl, q _ _ s5⟩
      have e1 : valV (mergeK [] [((Sum.inr "moved" : Key), V.ref t), (Sum.inr "both", .ref t2)]) (Sum.inr "flat" : Key) = none := by
        have k1 : ((Sum.inr "moved" : Key) = Sum.inr ("both" : Str)) = False := eq_false (fun z => absurd (Sum.inr.inj z) (by decide +kernel))
        have k2 : ((Sum.inr "moved" : Key) = Sum.inr ("flat" : Str)) = False := eq_false (fun z => absurd (Sum.inr.inj z) (by decide +kernel))
        have k3 : ((Sum.inr "both" : Key) = Sum.inr ("flat" : Str)) = False := eq_false (fun z => absurd (Sum.inr.inj z) (by decide +kernel))
        simp [mergeK, putK, valV, k1, k2, k3]
      rw [e1]
      rfl
    · refine ⟨_, rfl, c, _, 0, .str "as", rfl, rfl, hc, rfl, ?_⟩
      refine ⟨_, rfl, rfl, _, rfl, iteT ?_⟩
      exact ⟨_, rfl, q _ _ (Same.refl _)⟩
def spMiddle (K : PySem.W.Frag) : Sp := fun vs H Q _ => ∃ l, vs = [.ref l] ∧ SqL K H l [.int 0, .int 0, .int 0] ∧ ∀ v H', Same H H' → Q v H'
theorem ok_middle (T : Txt w K mg) : FnAt P w K mg base 1 "middle" ["some"] (spMiddle K) := by
  refine FnAt.of T.f_middle sc_middle (fun _ _ _ _ _ _ us hl => match us, hl with | [_], _ => rfl) (fun vs H Q E h => ?_) (fun cdv A outer s H vs Q E hr h => ?_)
  · obtain ⟨l, rfl, _⟩ := h
    rfl
  · obtain ⟨l, rfl, hl, q⟩ := h
    refine ⟨_, (pss_cons (ps_asg (pe_callB cr_sortedI (by rfl) T.z_sorted bb_sorted (pa_cons (pv 0) pa_nil)) (pg_unl (by rfl) (pgs_cons (pg_name (i := 2) sc_middle.nd rfl (Or.inl rfl)) (pgs_cons (pg_name (i := 1) sc_middle.nd rfl (Or.inl rfl)) (pgs_cons (pg_name (i := 3) sc_middle.nd rfl (Or.inl rfl)) pgs_nil)))))
      (pss_one (ps_ret (pv 1)))), ?_⟩
    refine ⟨_, rfl, l, [0, 0, 0], rfl, hl, fun ns p hp _ hn => ?_⟩
    have h3 : ns.length = 3 := hp.length_eq
    match ns, h3 with
    | [a, b, c], _ => exact ⟨p, _, rfl, .of upd_same, rfl, _, _, rfl, _, _, rfl, _, _, rfl, rfl, _, rfl, q _ _ (same_new hn)⟩
def spGuess (K : PySem.W.Frag) : Sp := fun vs H Q _ => ∃ l, vs = [.ref l, .int 0, .int 1] ∧ SqL K H l [] ∧ ∀ v H', Same H H' → Q v H'
theorem ok_guessed_vector (T : Txt w K mg) : FnAt P w K mg base 2 "guessed_vector" ["vectors", "k", "across"] (spGuess K) := by
  have g_middle : FnAt P w K mg base 1 _ _ (spMiddle K) := ok_middle T
  refine FnAt.of T.f_guessed_vector sc_guessed_vector (fun _ _ _ _ _ _ us hl => match us, hl with | [_, _, _], _ => rfl) (fun vs H Q E h => ?_) (fun cdv A outer s H vs Q E hr h => ?_)
  · obtain ⟨l, rfl, _⟩ := h
    rfl
  · obtain ⟨l, rfl, hl, q⟩ := h
    refine ⟨_, (pss_cons (ps_set (i := 3) sc_guessed_vector.nd rfl (Or.inl rfl) (pe_op op_mod (pv 1) (pv 2)))
      (pss_cons (ps_set (i := 4) sc_guessed_vector.nd rfl (Or.inl rfl) (pe_ifExp (pt_cmpR op_gt (pv 3) pe_int (nomark _)) (pe_lst (pa_cons (pe_op op_sub (pv 1) pe_int) pa_nil)) (pe_lst pa_nil)))
      (pss_cons (ps_if (pt_cmpR op_ge (pv 1) (pv 2) (nomark _)) (pss_cons ps_never
      (pss_one ps_never)) pss_nil)
      (pss_cons (ps_setLc (i := 5) (own := [("at", 6)]) rfl sc_guessed_vector.nd rfl rfl (sw_true rfl rfl rfl (by decide +kernel)) (pi_list (pv 4)) (blkOk_by (own := [("at", 6)]) (N := N_guessed_vector) (sc := defScope s_guessed_vector) (by decide +kernel)) (fun _ _ _ _ _ => (pg_name (i := 6) sc_guessed_vector.nd rfl (Or.inl rfl))) (fun _ _ _ _ _ => (pts_one (pt_cmpR op_notN (pe_ix (ixK_list K) (pv 0) (pv 6) (fun _ _ => rfl)) pe_non (nomark _)))) (fun _ _ _ _ _ => (pe_ix (ixK_list K) (pv 0) (pv 6) (fun _ _ => rfl))))
      (pss_cons (ps_if (pt_cmpR op_eq (pe_callB (callK_len K) (by rfl) T.z_len PySem.boot_len (pa_cons (pv 5) pa_nil)) pe_int (nomark _)) (pss_one ps_never) pss_nil)
      (pss_cons (ps_set (i := 5) sc_guessed_vector.nd rfl (Or.inl rfl) (pe_op op_cat (pv 5) (pe_op op_rep (pe_lst (pa_cons (pe_tup (pa_cons pe_int (pa_cons pe_int pa_nil))) pa_nil)) (pe_op op_sub pe_int (pe_callB (callK_len K) (by rfl) T.z_len PySem.boot_len (pa_cons (pv 5) pa_nil))))))
      (pss_one (ps_ret (pe_tup (pa_cons (pe_cal g_middle hr (by decide) (pa_cons (pe_lc (own := [("vector", 7)]) rfl sc_guessed_vector.nd (pi_list (pv 5)) (blkOk_by (own := [("vector", 7)]) (N := N_guessed_vector) (sc := defScope s_guessed_vector) (by decide +kernel)) (fun _ _ _ _ _ => (pg_name (i := 7) sc_guessed_vector.nd rfl (Or.inl rfl))) (fun _ _ _ _ _ => pts_nil) (fun _ _ _ _ _ => (pe_ix (ixK_tup K) (pv 7) pe_int (fun _ _ => rfl)))) pa_nil)) (pa_cons (pe_cal g_middle hr (by decide) (pa_cons (pe_lc (own := [("vector", 7)]) rfl sc_guessed_vector.nd (pi_list (pv 5)) (blkOk_by (own := [("vector", 7)]) (N := N_guessed_vector) (sc := defScope s_guessed_vector) (by decide +kernel)) (fun _ _ _ _ _ => (pg_name (i := 7) sc_guessed_vector.nd rfl (Or.inl rfl))) (fun _ _ _ _ _ => pts_nil) (fun _ _ _ _ _ => (pe_ix (ixK_tup K) (pv 7) pe_int (fun _ _ => rfl)))) pa_nil)) pa_nil))))))))))), ?_⟩
    refine ⟨_, rfl, _, rfl, _, _, rfl, rfl, by decide, ?_⟩
    refine ⟨_, rfl, _, _, rfl, rfl, _, rfl, iteF ?_⟩
    refine ⟨Nat.zero_le _, fun b hb => ?_⟩
    have s1 : Same H (upd H b (.lst [])) := same_new hb
    refine ⟨_, rfl, _, rfl, _, _, rfl, rfl, _, rfl, iteF ?_⟩
    refine ⟨_, rfl, b, rfl, ⟨_, .of upd_same⟩, fun D hD => ?_⟩
    have s2 : Same (upd H b (.lst [])) (upd (upd H b (.lst [])) D (.lst [])) := same_new hD
    refine lc_it (walk_list (K := K) (xs := [])) (fun i H' => H' = upd (upd H b (.lst [])) D (.lst [])) rfl (fun i H' _ h => by rw [h]; exact .of (s2 _ _ upd_same)) (fun i x H' _ hi => absurd hi (Nat.not_lt_zero _)) ?_
    rintro H' rfl
    refine ⟨_, rfl, D, _, rfl, .inl (.of upd_same), rfl, _, rfl, iteD (fun z => absurd z (by decide)) fun _ => ?_⟩
    refine ⟨_, rfl, line_le 2, fun t ht => ⟨line_le 1, fun l2 hl2 => ?_⟩⟩
    have s3 := (s1.trans s2).new (o := .tup [.int 0, .int 0]) ht
    have s4 := s3.new (o := .lst [.ref t]) hl2
    have eD : (upd (upd (upd (upd H b (.lst [])) D (.lst [])) t (.tup [.int 0, .int 0])) l2 (.lst [.ref t])) D = some (.lst []) := (same_new hl2) _ _ ((same_new ht) _ _ upd_same)
    refine ⟨_, rfl, D, _, rfl, .inl (.of eD), _, _, rfl, rfl, l2, 3, [.ref t], rfl, rfl, upd_same, by decide, by decide, line_le 3, fun l3 hl3 => ?_⟩
    have s5 := s4.new (o := .lst (List.replicate (Int.toNat 3) [V.ref t]).flatten) hl3
    refine ⟨D, l3, [], [.ref t, .ref t, .ref t], rfl, rfl, (same_new hl3) _ _ eD, upd_same, line_le 3, fun l4 hl4 => ?_⟩
    have s6 := s5.new (o := .lst ([] ++ [.ref t, .ref t, .ref t])) hl4
    have et : (upd (upd (upd (upd (upd (upd H b (.lst [])) D (.lst [])) t (.tup [.int 0, .int 0])) l2 (.lst [.ref t])) l3 (.lst (List.replicate (Int.toNat 3) [V.ref t]).flatten)) l4 (.lst ([] ++ [.ref t, .ref t, .ref t]))) t = some (.tup [.int 0, .int 0]) :=
      (same_new hl4) _ _ ((same_new hl3) _ _ ((same_new hl2) _ _ upd_same))
    have e4 : (upd (upd (upd (upd (upd (upd H b (.lst [])) D (.lst [])) t (.tup [.int 0, .int 0])) l2 (.lst [.ref t])) l3 (.lst (List.replicate (Int.toNat 3) [V.ref t]).flatten)) l4 (.lst ([] ++ [.ref t, .ref t, .ref t]))) l4 = some (.lst [.ref t, .ref t, .ref t]) := upd_same
    generalize (upd (upd (upd (upd (upd (upd H b (.lst [])) D (.lst [])) t (.tup [.int 0, .int 0])) l2 (.lst [.ref t])) l3 (.lst (List.replicate (Int.toNat 3) [V.ref t]).flatten)) l4 (.lst ([] ++ [.ref t, .ref t, .ref t]))) = H6 at s6 et e4
    have item : ∀ {i : Nat} {x : V}, [V.ref t, .ref t, .ref t][i]? = some x → x = .ref t := fun {i x} h => by
      have h2 := List.mem_of_getElem? h
      simpa using h2
    refine ⟨_, rfl, l4, rfl, ⟨_, .of e4⟩, fun D2 hD2 => ?_⟩
    refine lc_it (walk_list (K := K) (xs := [.ref t, .ref t, .ref t])) (fun i H' => Same H6 H' ∧ H' D2 = some (.lst (List.replicate i (.int 0)))) ⟨same_new hD2, upd_same⟩ (fun i H' _ h => .of (h.1 _ _ e4)) ?_ ?_
    · rintro i x H' _ hi ⟨t1, d1⟩ ⟨rfl, hx⟩
      obtain rfl := item hx
      refine ⟨rfl, t_yes (iteT ?_)⟩
      refine ⟨_, rfl, t, _, 0, .int 0, rfl, rfl, .of (t1 _ _ et), rfl, _, d1, by rw [List.length_replicate]; exact small1000 (by have : i < 3 := hi; omega), ?_, ?_⟩
      · intro c o e
        rw [upd_ne (ne_of_none e hD2)]
        exact t1 _ _ e
      · rw [upd_same, List.replicate_succ']
    rintro H7 ⟨t1, d1⟩
    refine ⟨D2, rfl, .of d1, fun v1 H8 t2 => ?_⟩
    refine ⟨_, rfl, l4, rfl, ⟨_, .of (t2 _ _ (t1 _ _ e4))⟩, fun D3 hD3 => ?_⟩
    refine lc_it (walk_list (K := K) (xs := [.ref t, .ref t, .ref t])) (fun i H' => Same H8 H' ∧ H' D3 = some (.lst (List.replicate i (.int 0)))) ⟨same_new hD3, upd_same⟩ (fun i H' _ h => .of (h.1 _ _ (t2 _ _ (t1 _ _ e4)))) ?_ ?_
    · rintro i x H' _ hi ⟨u1, d2⟩ ⟨rfl, hx⟩
      obtain rfl := item hx
      refine ⟨rfl, t_yes (iteT ?_)⟩
      refine ⟨_, rfl, t, _, 1, .int 0, rfl, rfl, .of (u1 _ _ (t2 _ _ (t1 _ _ et))), rfl, _, d2, by rw [List.length_replicate]; exact small1000 (by have : i < 3 := hi; omega), ?_, ?_⟩
      · intro c o e
        rw [upd_ne (ne_of_none e hD3)]
        exact u1 _ _ e
      · rw [upd_same, List.replicate_succ']
    rintro H9 ⟨u1, d2⟩
    refine ⟨D3, rfl, .of d2, fun v2 H10 u2 => ⟨line_le 2, fun p hp => q _ _ ?_⟩⟩
    exact (((((s6.trans t1).trans t2).trans u1).trans u2).new hp)
/-! ### the coder's small defs -/
def spSigns : Sp := fun vs H Q _ => ∃ n : Nat, vs = [.int n] ∧ Q (.int (Nat.log2 n)) H
theorem ok_signs_in (T : Txt w K mg) : FnAt P w K mg base 1 "signs_in" ["number"] spSigns := by
  refine FnAt.of T.f_signs_in sc_signs_in (fun _ _ _ _ _ _ us hl => match us, hl with | [_], _ => rfl) (fun vs H Q E h => ?_) (fun cdv A outer s H vs Q E hr h => ?_)
  · obtain ⟨n, rfl, _⟩ := h
    rfl
  · obtain ⟨n, rfl, q⟩ := h
    refine ⟨_, (pss_cons (ps_set (i := 1) sc_signs_in.nd rfl (Or.inl rfl) pe_int)
      (pss_cons (ps_while PassesOwn.never (pt_cmpR op_gt (pv 0) pe_int (nomark _)) (pss_cons (ps_set (i := 0) sc_signs_in.nd rfl (Or.inl rfl) (pe_op op_fdiv (pv 0) pe_int))
      (pss_one (ps_aug (i := 1) sc_signs_in.nd rfl (Or.inl rfl) pe_int ip_add))))
      (pss_one (ps_ret (pv 1))))), ?_⟩
    refine ⟨fun m σ H' => ∃ f : Nat, σ = [some (.int (m : Nat)), some (.int (f : Nat))] ∧ H' = H ∧ f + Nat.log2 m = Nat.log2 n, ⟨n, 0, rfl, rfl, Nat.zero_add _⟩, ?_⟩
    rintro m σ H' ⟨f, rfl, rfl, e⟩
    refine ⟨_, rfl, _, _, rfl, rfl, _, rfl, iteD (fun h1 => ?_) (fun h1 => ?_)⟩
    · have h2 : 2 ≤ m := by omega
      have e2 : Nat.log2 m = Nat.log2 (m / 2) + 1 := by
        rw [Nat.log2_def m, if_pos h2]
      refine ⟨fun σ' H2 => ∃ f : Nat, σ' = [some (.int ((m / 2 : Nat) : Int)), some (.int (f : Nat))] ∧ H2 = H' ∧ f + Nat.log2 (m / 2) = Nat.log2 n, ?_, ?_⟩
      · rintro σ' H2 ⟨f2, rfl, rfl, e3⟩
        exact ⟨m / 2, by omega, f2, rfl, rfl, e3⟩
      · refine ⟨_, rfl, _, _, rfl, rfl, ⟨by decide, by decide⟩, ?_⟩
        refine ⟨_, rfl, _, _, rfl, rfl, ?_⟩
        refine ⟨f + 1, ?_, rfl, by omega⟩
        rfl
    · have e2 : Nat.log2 m = 0 := by
        rw [Nat.log2_def m, if_neg (by omega)]
      refine ⟨_, rfl, ?_⟩
      have e3 : f = Nat.log2 n := by omega
      rw [e3]
      exact q
def spLower : Sp := fun vs H Q _ => ∃ (n : Int) (k : Nat), vs = [.int n, .int k] ∧ k ≤ 100 ∧ ∀ p H', Same H H' → H' p = some (.lst ((digs 2 n k).reverse.map V.int)) → Q (.ref p) H'
theorem ok_lower_signs (T : Txt w K mg) : FnAt P w K mg base 1 "lower_signs" ["number", "many"] spLower := by
  refine FnAt.of T.f_lower_signs sc_lower_signs (fun _ _ _ _ _ _ us hl => match us, hl with | [_, _], _ => rfl) (fun vs H Q E h => ?_) (fun cdv A outer s H vs Q E hr h => ?_)
  · obtain ⟨n, k, rfl, _⟩ := h
    rfl
  · obtain ⟨n, k, rfl, hk, q⟩ := h
    refine ⟨_, (pss_cons (ps_set (i := 2) sc_lower_signs.nd rfl (Or.inl rfl) (pe_lst pa_nil))
      (pss_cons (ps_for PassesOwn.never rfl (pi_range1 (by rfl) T.z_range (pa_cons (pv 1) pa_nil)) (pg_name (i := 3) sc_lower_signs.nd rfl (Or.inl rfl)) (pss_cons (ps_expr (pe_bm PySem.F.plainAttrs_list PySem.F.slot_list_append PySem.F.type_list_append mt_append (pv 2) (pa_cons (pe_op op_mod (pv 0) pe_int) pa_nil)))
      (pss_one (ps_set (i := 0) sc_lower_signs.nd rfl (Or.inl rfl) (pe_op op_fdiv (pv 0) pe_int)))))
      (pss_one (ps_ret (pe_revL (pv 2)))))), ?_⟩
    refine ⟨line_le 0, fun f hf => ?_⟩
    refine ⟨_, rfl, k, rfl, by omega, by omega, ?_⟩
    refine for_it walk_range (fun i σ H' => ∃ (z : Int) (v : Option V) (acc : List Int), σ = [some (.int z), some (.int k), some (.ref f), v] ∧ Same H H' ∧ H' f = some (.lst (acc.map V.int)) ∧ acc ++ digs 2 z (k - i) = digs 2 n k ∧ acc.length = i)
      ⟨n, none, [], rfl, same_new hf, upd_same, rfl, rfl⟩ (fun _ _ _ _ _ => trivial) ?_ ?_
    · rintro i x σ H' _ hi ⟨z, v, acc, rfl, s1, ef, ed, el⟩ ⟨rfl, rfl⟩
      have hi' : i < k := by simpa using hi
      refine ⟨_, rfl, .inl ⟨rfl, _, .of ef⟩, _, rfl, _, _, rfl, rfl, (show (0 : Int) < 2 by decide), f, _, _, rfl, rfl, ef, ?_, ?_⟩
      · rw [List.length_map, el]
        exact small1000 (by omega)
      · refine ⟨_, rfl, _, _, rfl, rfl, ⟨by decide, by decide⟩, ?_⟩
        refine ⟨z / 2, _, acc ++ [z % 2], rfl, ?_, ?_, ?_, by simp [el]⟩
        · intro b o e
          rw [upd_ne (ne_of_none e hf)]
          exact s1 _ _ e
        · rw [upd_same, List.map_append]
          rfl
        · rw [← ed, show k - i = (k - (i + 1)) + 1 by omega, List.append_assoc]
          rfl
    · rintro σ H' ⟨z, v, acc, rfl, s1, ef, ed, el⟩
      have hz : k - ((k : Int)).toNat = 0 := by simp
      rw [hz] at ed
      have ed2 : acc = digs 2 n k := by
        rw [← ed]
        exact (List.append_nil _).symm
      refine ⟨_, rfl, f, _, rfl, .of ef, fun p hp => q p _ (s1.new hp) ?_⟩
      rw [upd_same, ed2, List.map_reverse]
def spLettersIn : Sp := fun vs H Q _ => ∃ (n : Int) (k : Nat), vs = [.int n, .int k] ∧ k ≤ 100 ∧ ∀ p H', Same H H' → H' p = some (.tup ((digs 256 n k).reverse.map V.int)) → Q (.ref p) H'
theorem ok_letters_in (T : Txt w K mg) : FnAt P w K mg base 1 "letters_in" ["number", "many"] spLettersIn := by
  refine FnAt.of T.f_letters_in sc_letters_in (fun _ _ _ _ _ _ us hl => match us, hl with | [_, _], _ => rfl) (fun vs H Q E h => ?_) (fun cdv A outer s H vs Q E hr h => ?_)
  · obtain ⟨n, k, rfl, _⟩ := h
    rfl
  · obtain ⟨n, k, rfl, hk, q⟩ := h
    refine ⟨_, (pss_cons (ps_set (i := 2) sc_letters_in.nd rfl (Or.inl rfl) (pe_lst pa_nil))
      (pss_cons (ps_for PassesOwn.never rfl (pi_range1 (by rfl) T.z_range (pa_cons (pv 1) pa_nil)) (pg_name (i := 3) sc_letters_in.nd rfl (Or.inl rfl)) (pss_cons (ps_expr (pe_bm PySem.F.plainAttrs_list PySem.F.slot_list_append PySem.F.type_list_append mt_append (pv 2) (pa_cons (pe_op op_mod (pv 0) pe_int) pa_nil)))
      (pss_one (ps_set (i := 0) sc_letters_in.nd rfl (Or.inl rfl) (pe_op op_fdiv (pv 0) pe_int)))))
      (pss_one (ps_ret (pe_callTy call_tuple_of (by rfl) T.z_tuple bb_tuple (pa_cons (pe_revL (pv 2)) pa_nil)))))), ?_⟩
    refine ⟨line_le 0, fun f hf => ?_⟩
    refine ⟨_, rfl, k, rfl, by omega, by omega, ?_⟩
    refine for_it walk_range (fun i σ H' => ∃ (z : Int) (v : Option V) (acc : List Int), σ = [some (.int z), some (.int k), some (.ref f), v] ∧ Same H H' ∧ H' f = some (.lst (acc.map V.int)) ∧ acc ++ digs 256 z (k - i) = digs 256 n k ∧ acc.length = i)
      ⟨n, none, [], rfl, same_new hf, upd_same, rfl, rfl⟩ (fun _ _ _ _ _ => trivial) ?_ ?_
    · rintro i x σ H' _ hi ⟨z, v, acc, rfl, s1, ef, ed, el⟩ ⟨rfl, rfl⟩
      have hi' : i < k := by simpa using hi
      refine ⟨_, rfl, .inl ⟨rfl, _, .of ef⟩, _, rfl, _, _, rfl, rfl, (show (0 : Int) < 256 by decide), f, _, _, rfl, rfl, ef, ?_, ?_⟩
      · rw [List.length_map, el]
        exact small1000 (by omega)
      · refine ⟨_, rfl, _, _, rfl, rfl, ⟨by decide, by decide⟩, ?_⟩
        refine ⟨z / 256, _, acc ++ [z % 256], rfl, ?_, ?_, ?_, by simp [el]⟩
        · intro b o e
          rw [upd_ne (ne_of_none e hf)]
          exact s1 _ _ e
        · rw [upd_same, List.map_append]
          rfl
        · rw [← ed, show k - i = (k - (i + 1)) + 1 by omega, List.append_assoc]
          rfl
    · rintro σ H' ⟨z, v, acc, rfl, s1, ef, ed, el⟩
      have hz : k - ((k : Int)).toNat = 0 := by simp
      rw [hz] at ed
      have ed2 : acc = digs 256 n k := by
        rw [← ed]
        exact (List.append_nil _).symm
      refine ⟨_, rfl, f, _, rfl, .of ef, fun p hp => ?_⟩
      refine ⟨p, _, rfl, .inl ⟨.of upd_same, fun t ht => q t _ ((s1.new hp).new ht) ?_⟩⟩
      rw [upd_same, ed2, List.map_reverse]
def spSign : Sp := fun vs H Q _ => ∃ i : Int, vs = [.int i] ∧ 0 ≤ i ∧ i ≤ 1 ∧ Q .non H
theorem ok_need_sign (T : Txt w K mg) : FnAt P w K mg base 2 "need_sign" ["value"] spSign := by
  have g_is_whole : FnAt P w K mg base 1 _ _ spYes := ok_whole T
  refine FnAt.of T.f_need_sign sc_need_sign (fun _ _ _ _ _ _ us hl => match us, hl with | [_], _ => rfl) (fun vs H Q E h => ?_) (fun cdv A outer s H vs Q E hr h => ?_)
  · obtain ⟨n, rfl, _⟩ := h
    rfl
  · obtain ⟨n, rfl, h0, h1, q⟩ := h
    refine ⟨_, (pss_one (ps_if (pt_not (pt_val (pe_cal g_is_whole hr (by decide) (pa_cons (pv 0) (pa_cons pe_int (pa_cons pe_int pa_nil)))))) (pss_one ps_never) pss_nil)), ?_⟩
    exact ⟨_, rfl, _, _, _, rfl, h0, h1, _, rfl, iteF q⟩
end
end K36
namespace K36
open L2 PySem
open PySem.Spec PyProof.Rows
/-! ### a coder and its fields -/
theorem lk_hd {f : Str} {v : V} {r : List (Str × V)} : List.lookup f ((f, v) :: r) = some v := by simp [List.lookup]
theorem lk_tl {f g : Str} {v : V} {r : List (Str × V)} (h : ¬ f = g) : List.lookup f ((g, v) :: r) = List.lookup f r := by simp [List.lookup, beq_eq_false_iff_ne.mpr h]
theorem pf_hd {f : Str} {v x : V} {r : List (Str × V)} : putF f v ((f, x) :: r) = (f, v) :: r := if_pos rfl
theorem pf_tl {f g : Str} {v x : V} {r : List (Str × V)} (h : ¬ g = f) : putF f v ((g, x) :: r) = (g, x) :: putF f v r := if_neg h
def cf (low br : Int) (d : Addr) (rest : List (Str × V)) : List (Str × V) := ("low", .int low) :: ("breadth", .int br) :: ("room", .int 4294967296) :: ("sent", .int 0) :: ("learned_ones", .ref d) :: rest
section
variable {low br x : Int} {d : Addr} {rest : List (Str × V)}
theorem cf_low : (cf low br d rest).lookup ("low" : Str) = some (.int low) := lk_hd
theorem cf_breadth : (cf low br d rest).lookup ("breadth" : Str) = some (.int br) := (lk_tl (by decide +kernel)).trans lk_hd
theorem cf_room : (cf low br d rest).lookup ("room" : Str) = some (.int 4294967296) := (lk_tl (by decide +kernel)).trans ((lk_tl (by decide +kernel)).trans lk_hd)
theorem cf_learned : (cf low br d rest).lookup ("learned_ones" : Str) = some (.ref d) :=
  (lk_tl (by decide +kernel)).trans ((lk_tl (by decide +kernel)).trans ((lk_tl (by decide +kernel)).trans ((lk_tl (by decide +kernel)).trans lk_hd)))
theorem cf_no {m : Str} (h : m ∉ (["low", "breadth", "room", "sent", "learned_ones"] : List Str)) (hr : rest.lookup m = none) : (cf low br d rest).lookup m = none := by
  simp only [List.mem_cons, not_or, List.not_mem_nil, not_false_eq_true, and_true] at h
  obtain ⟨h1, h2, h3, h4, h5⟩ := h
  exact (lk_tl h1).trans ((lk_tl h2).trans ((lk_tl h3).trans ((lk_tl h4).trans ((lk_tl h5).trans hr))))
theorem cf_tl {m : Str} (h : m ∉ (["low", "breadth", "room", "sent", "learned_ones"] : List Str)) : (cf low br d rest).lookup m = rest.lookup m := by
  simp only [List.mem_cons, not_or, List.not_mem_nil, not_false_eq_true, and_true] at h
  obtain ⟨h1, h2, h3, h4, h5⟩ := h
  exact (lk_tl h1).trans ((lk_tl h2).trans ((lk_tl h3).trans ((lk_tl h4).trans (lk_tl h5))))
theorem cf_put_low : putF "low" (.int x) (cf low br d rest) = cf x br d rest := pf_hd
theorem cf_put_breadth : putF "breadth" (.int x) (cf low br d rest) = cf low x d rest := (pf_tl (by decide +kernel)).trans (congrArg (_ :: ·) pf_hd)
theorem cf_put {m : Str} {v : V} (h : ∀ g ∈ (["low", "breadth", "room", "sent", "learned_ones"] : List Str), ¬ g = m) : putF m v (cf low br d rest) = cf low br d (putF m v rest) := by
  simp only [List.mem_cons, List.not_mem_nil, or_false, forall_eq_or_imp, forall_eq] at h
  obtain ⟨h1, h2, h3, h4, h5⟩ := h
  unfold cf
  rw [pf_tl h1, pf_tl h2, pf_tl h3, pf_tl h4, pf_tl h5]
end
def ck (n : Nat) : List (Str × V) := ([("low", .int 0), ("breadth", .int 4294967296), ("room", .int 4294967296), ("sent", .int 0)] : List (Str × V)).take n
theorem ck1 : putF "breadth" (V.int 4294967296) (putF "low" (V.int 0) []) = ck 2 := (pf_tl (f := "breadth") (g := "low") (by decide +kernel)).trans rfl
theorem ck2 : putF "room" (V.int 4294967296) (ck 2) = ck 3 := (pf_tl (f := "room") (g := "low") (by decide +kernel)).trans (congrArg (_ :: ·) ((pf_tl (f := "room") (g := "breadth") (by decide +kernel)).trans rfl))
theorem ck3 : putF "sent" (V.int 0) (ck 3) = ck 4 := (pf_tl (f := "sent") (g := "low") (by decide +kernel)).trans (congrArg (_ :: ·) ((pf_tl (f := "sent") (g := "breadth") (by decide +kernel)).trans (congrArg (_ :: ·) ((pf_tl (f := "sent") (g := "room") (by decide +kernel)).trans rfl))))
theorem ck4 {d : Addr} : putF "learned_ones" (V.ref d) (ck 4) = cf 0 4294967296 d [] := (pf_tl (f := "learned_ones") (g := "low") (by decide +kernel)).trans (congrArg (_ :: ·) ((pf_tl (f := "learned_ones") (g := "breadth") (by decide +kernel)).trans
  (congrArg (_ :: ·) ((pf_tl (f := "learned_ones") (g := "room") (by decide +kernel)).trans (congrArg (_ :: ·) ((pf_tl (f := "learned_ones") (g := "sent") (by decide +kernel)).trans rfl))))))
/-- a coder of the class C at p: its numbers, its dict at d with these keys, its further fields -/
structure CoAt (C : Addr) (H : Hp) (p d : Addr) (low br : Int) (ks : List Key) (rest : List (Str × V)) : Prop where
  ob : ∃ dx, H p = some (.ins C dx (cf low br d rest))
  dc : ∃ kvs : List (Key × V), H d = some (.dK kvs) ∧ kvs.map (·.1) = ks
  len : rest.length ≤ 10
theorem CoAt.ne {C : Addr} {H : Hp} {p d : Addr} {low br : Int} {ks : List Key} {rest : List (Str × V)} (c : CoAt C H p d low br ks rest) : p ≠ d := by
  obtain ⟨dx, h1⟩ := c.ob
  obtain ⟨kvs, h2, _⟩ := c.dc
  exact ne_of h1 h2 (fun z => nomatch z)
theorem CoAt.same {C : Addr} {H H' : Hp} {p d : Addr} {low br : Int} {ks : List Key} {rest : List (Str × V)} (c : CoAt C H p d low br ks rest) (s : Same H H') : CoAt C H' p d low br ks rest := by
  obtain ⟨dx, h1⟩ := c.ob
  obtain ⟨kvs, h2, h3⟩ := c.dc
  exact ⟨⟨dx, s _ _ h1⟩, ⟨kvs, s _ _ h2, h3⟩, c.len⟩
theorem cf_len {low br : Int} {d : Addr} {rest : List (Str × V)} (h : rest.length ≤ 10) : (cf low br d rest).length < 1000 := by
  show rest.length + 5 < 1000
  omega
theorem valV_no {kvs : List (Key × V)} {k : Key} (h : k ∉ kvs.map (·.1)) : valV kvs k = none := by
  cases e : valV kvs k with
  | none => rfl
  | some v => exact absurd (valV_in e) h
/-- the facts of a coder's class -/
structure CoT (K : PySem.W.Frag) (C : Str) : Prop where
  cl : Cls K (ga K C)
  n1 : NoAttr K (ga K C) "low"
  n2 : NoAttr K (ga K C) "breadth"
  n3 : NoAttr K (ga K C) "room"
  n4 : NoAttr K (ga K C) "sent"
  n5 : NoAttr K (ga K C) "learned_ones"
  m1 : MetK K C "chance_of" "Coder.chance_of" s_Coder_chance_of
  m2 : MetK K C "narrowed" "Coder.narrowed" s_Coder_narrowed
  m3 : MetK K C "learn" "Coder.learn" s_Coder_learn
section
variable {P : Program} {w : World} {K : PySem.W.Frag} {mg : Str → Option Value} {base : Heap}
theorem writerT (T : Txt w K mg) : CoT K "Writer" := ⟨T.k_Writer, T.n_Writer_low, T.n_Writer_breadth, T.n_Writer_room, T.n_Writer_sent, T.n_Writer_learned_ones, T.m_Writer_chance_of, T.m_Writer_narrowed, T.m_Writer_learn⟩
theorem readerT (T : Txt w K mg) : CoT K "Reader" := ⟨T.k_Reader, T.n_Reader_low, T.n_Reader_breadth, T.n_Reader_room, T.n_Reader_sent, T.n_Reader_learned_ones, T.m_Reader_chance_of, T.m_Reader_narrowed, T.m_Reader_learn⟩
variable {C : Str}
/-! ### Coder -/
def spCoInit (C : Addr) : Sp := fun vs H Q _ => ∃ p dx, vs = [.ref p] ∧ H p = some (.ins C dx []) ∧ ∀ d H', H d = none → CoAt C H' p d 0 4294967296 [] [] → Kept [p] H H' → Q .non H'
/-- __init__'s body over any class of coders -/
theorem co_init (T : Txt w K mg) (c : CoT K C) {f : Addr} {fd : FuncData} (F : Fun K "__init__" "Coder.__init__" s_Coder___init__ f fd) : FnOk P w K mg base CX0 1 f fd ["self"] (spCoInit (ga K C)) := by
  refine F.ok sc_Coder___init__ (fun vs H Q E h => ?_) (fun cdv A outer s H vs Q E hr h => ?_)
  · obtain ⟨p, dx, rfl, _⟩ := h
    rfl
  · obtain ⟨p, dx, rfl, hp, q⟩ := h
    refine ⟨_, (pss_cons (ps_fld (pv 0) pe_int rfl)
      (pss_cons (ps_fld (pv 0) (pe_gint T.c_FIRST_BREADTH) rfl)
      (pss_cons (ps_fld (pv 0) (pe_gint T.c_FIRST_BREADTH) rfl)
      (pss_cons (ps_fld (pv 0) pe_int rfl)
      (pss_one (ps_fld (pv 0) pe_dnewK rfl)))))), ?_⟩
    refine ⟨_, rfl, p, _, dx, [], rfl, hp, c.cl, c.n1, by show 0 < 1000; decide, ?_⟩
    refine ⟨_, rfl, p, _, dx, _, rfl, upd_same, c.cl, c.n2, by show 1 < 1000; decide, ?_⟩
    refine ⟨_, rfl, p, _, dx, _, rfl, upd_same, c.cl, c.n3, by decide +kernel, ?_⟩
    refine ⟨_, rfl, p, _, dx, _, rfl, upd_same, c.cl, c.n4, by decide +kernel, ?_⟩
    intro d hd
    have npd : d ≠ p := fun z => by
      rw [z, upd_same] at hd
      cases hd
    have nd0 : H d = none := by
      rw [upd_ne npd, upd_ne npd, upd_ne npd, upd_ne npd] at hd
      exact hd
    refine ⟨_, rfl, p, _, dx, _, rfl, by rw [upd_ne npd.symm, upd_same], c.cl, c.n5, by decide +kernel, ?_⟩
    refine q d _ nd0 ⟨⟨dx, ?_⟩, ⟨[], ?_, rfl⟩, by decide⟩ fun b o e nb => ?_
    · rw [upd_same]
      rw [ck1, ck2, ck3, ck4]
    · rw [upd_ne npd, upd_same]
    · have nb' : b ≠ p := fun z => nb (by simp [z])
      rw [upd_ne nb', upd_ne (ne_of_none e nd0), upd_ne nb', upd_ne nb', upd_ne nb', upd_ne nb']
      exact e
theorem ok_Writer_init (T : Txt w K mg) : MkAt P w K mg base 1 "Writer" ["self"] (spCoInit (ga K "Writer")) := by
  obtain ⟨M, fd, F⟩ := T.i_Writer
  exact ⟨T.g_Writer, _, fd, M, co_init T (writerT T) F, F.binds (fun _ _ _ _ _ _ us hl => match us, hl with | [_], _ => rfl)⟩
def spChance (C : Addr) : Sp := fun vs H Q _ => ∃ p d z low br ks rest, vs = [.ref p, .str z] ∧ CoAt C H p d low br ks rest ∧ Sum.inr z ∉ ks ∧ Q (.int 1024) H
theorem ok_chance_of (T : Txt w K mg) (c : CoT K C) : MtAt P w K mg base 1 C "chance_of" ["self", "name"] (spChance (ga K C)) := by
  refine MtAt.of c.cl c.m1 sc_Coder_chance_of (fun _ _ _ _ _ _ us hl => match us, hl with | [_, _], _ => rfl) (fun vs H Q E h => ?_) (fun cdv A outer s H vs Q E hr h => ?_)
  · obtain ⟨p, d, z, low, br, ks, rest, rfl, _⟩ := h
    rfl
  · obtain ⟨p, d, z, low, br, ks, rest, rfl, ⟨⟨dx, hp⟩, ⟨kvs, hd, hk⟩, _⟩, nz, q⟩ := h
    have hu := hu_of hr
    refine ⟨_, (pss_one (ps_ret (pe_dget2 hu (pe_fld (pv 0) rfl) (pv 1) (pe_gint T.c_EVEN) ⟨rfl, rfl, rfl, rfl⟩))), ?_⟩
    refine ⟨_, rfl, p, _, dx, _, _, rfl, hp, c.cl, c.n5, cf_learned, d, rfl, .inl ⟨_, .inl hd⟩, _, rfl, _, DGet.k (k := Sum.inr z) hd, ?_⟩
    rw [valV_no (by rw [hk]; exact nz)]
    exact q
def nLow (low part v : Int) : Int := if v = 0 then low else low + part
def nBr (br part v : Int) : Int := if v = 0 then part else br - part
def spNarrow (C : Addr) : Sp := fun vs H Q _ => ∃ p d low br ks rest part v, vs = [.ref p, .int part, .int v] ∧ CoAt C H p d low br ks rest ∧ 16777216 ≤ nBr br part v ∧
  ∀ H', CoAt C H' p d (nLow low part v) (nBr br part v) ks rest → Kept [p] H H' → Q .non H'
theorem ok_narrowed (T : Txt w K mg) (c : CoT K C) : MtAt P w K mg base 1 C "narrowed" ["self", "part", "value"] (spNarrow (ga K C)) := by
  refine MtAt.of c.cl c.m2 sc_Coder_narrowed (fun _ _ _ _ _ _ us hl => match us, hl with | [_, _, _], _ => rfl) (fun vs H Q E h => ?_) (fun cdv A outer s H vs Q E hr h => ?_)
  · obtain ⟨p, d, low, br, ks, rest, part, v, rfl, _⟩ := h
    rfl
  · obtain ⟨p, d, low, br, ks, rest, part, v, rfl, cp, hb, q⟩ := h
    obtain ⟨⟨dx, hp⟩, ⟨kvs, hd, hk⟩, hl⟩ := id cp
    have npd := cp.ne
    refine ⟨_, (pss_cons (ps_if (pt_cmpR op_eq (pv 2) pe_int (nomark _)) (pss_one (ps_fld (pv 0) (pv 1) rfl)) (pss_cons (ps_fldaug (pv 0) (pv 1) in_add)
      (pss_one (ps_fldaug (pv 0) (pv 1) in_sub))))
      (pss_one (ps_while PassesOwn.never (pt_cmpR op_lt (pe_fld (pv 0) rfl) (pe_gint T.c_LEAST_BREADTH) (nomark _)) (pss_cons ps_never
      (pss_cons ps_never
      (pss_cons ps_never
      (pss_cons ps_never
      (pss_one ps_never)))))))), ?_⟩
    -- the loop's test behind either way
    have back : ∀ H', H' = upd H p (.ins (ga K C) dx (cf (nLow low part v) (nBr br part v) d rest)) → Q .non H' := fun H' e => by
      rw [e]
      refine q _ ⟨⟨dx, upd_same⟩, ⟨kvs, by rw [upd_ne npd.symm]; exact hd, hk⟩, hl⟩ (kept_upd (by simp))
    refine ⟨_, rfl, rfl, _, rfl, iteD (fun h0 => ?_) (fun h0 => ?_)⟩
    · have v0 : v = 0 := by injection h0
      have eb : nBr br part v = part := if_pos v0
      have el : nLow low part v = low := if_pos v0
      refine ⟨_, rfl, _, rfl, p, _, dx, _, rfl, hp, c.cl, c.n2, cf_len hl, ?_⟩
      rw [cf_put_breadth]
      refine ⟨fun m σ' H' => σ' = [some (.ref p), some (.int part), some (.int v)] ∧ H' = upd H p (.ins (ga K C) dx (cf low part d rest)), ⟨0, rfl, rfl⟩, ?_⟩
      rintro m σ' H' ⟨rfl, rfl⟩
      refine ⟨_, rfl, p, _, dx, _, _, rfl, upd_same, c.cl, c.n2, cf_breadth, _, _, rfl, rfl, _, rfl, iteD (fun z => absurd z (by omega)) fun _ => ?_⟩
      refine back _ ?_
      rw [el, eb]
    · have v0 : ¬ v = 0 := fun z => h0 (by rw [z])
      have eb : nBr br part v = br - part := if_neg v0
      have el : nLow low part v = low + part := if_neg v0
      refine ⟨_, rfl, p, _, dx, _, _, rfl, hp, c.cl, c.n1, cf_low, _, rfl, _, _, rfl, rfl, dx, _, hp, cf_len hl, ?_⟩
      rw [cf_put_low]
      refine ⟨_, rfl, p, _, dx, _, _, rfl, upd_same, c.cl, c.n2, cf_breadth, _, rfl, _, _, rfl, rfl, dx, _, upd_same, cf_len hl, ?_⟩
      rw [cf_put_breadth, upd_upd]
      refine ⟨fun m σ' H' => σ' = [some (.ref p), some (.int part), some (.int v)] ∧ H' = upd H p (.ins (ga K C) dx (cf (low + part) (br - part) d rest)), ⟨0, rfl, rfl⟩, ?_⟩
      rintro m σ' H' ⟨rfl, rfl⟩
      refine ⟨_, rfl, p, _, dx, _, _, rfl, upd_same, c.cl, c.n2, cf_breadth, _, _, rfl, rfl, _, rfl, iteD (fun z => absurd z (by omega)) fun _ => ?_⟩
      refine back _ ?_
      rw [el, eb]
def spLearn (C : Addr) : Sp := fun vs H Q _ => ∃ p d low br ks rest z v, vs = [.ref p, .str z, .int 1024, .int v] ∧ CoAt C H p d low br ks rest ∧ Sum.inr z ∉ ks ∧ ks.length ≤ 100 ∧
  ∀ H', CoAt C H' p d low br (ks ++ [Sum.inr z]) rest → Kept [d] H H' → Q .non H'
theorem ok_learn (T : Txt w K mg) (c : CoT K C) : MtAt P w K mg base 1 C "learn" ["self", "name", "chance", "value"] (spLearn (ga K C)) := by
  refine MtAt.of c.cl c.m3 sc_Coder_learn (fun _ _ _ _ _ _ us hl => match us, hl with | [_, _, _, _], _ => rfl) (fun vs H Q E h => ?_) (fun cdv A outer s H vs Q E hr h => ?_)
  · obtain ⟨p, d, low, br, ks, rest, z, v, rfl, _⟩ := h
    rfl
  · obtain ⟨p, d, low, br, ks, rest, z, v, rfl, cp, nz, hlen, q⟩ := h
    obtain ⟨⟨dx, hp⟩, ⟨kvs, hd, hk⟩, hl⟩ := id cp
    have npd := cp.ne
    have hu := hu_of hr
    refine ⟨_, (pss_one (ps_dput hu (pe_fld (pv 0) rfl) (pv 1) (pe_ifExp (pt_cmpR op_eq (pv 3) pe_int (nomark _)) (pe_op op_add (pv 2) (pe_op op_fdiv (pe_op op_sub (pe_gint T.c_WHOLE) (pv 2)) (pe_gint T.c_SLOW))) (pe_op op_sub (pv 2) (pe_op op_fdiv (pv 2) (pe_gint T.c_SLOW)))) rfl)), ?_⟩
    have klen : kvs.length = ks.length := by rw [← hk, List.length_map]
    have last : ∀ i : Int, Q .non (upd H d (.dK (putK kvs (Sum.inr z) (.int i)))) := fun i => by
      refine q _ ⟨⟨dx, by rw [upd_ne npd]; exact hp⟩, ⟨_, upd_same, ?_⟩, hl⟩ (kept_upd (by simp))
      rw [putK_new _ (valV_no (by rw [hk]; exact nz)), List.map_append, hk]
      rfl
    refine ⟨_, rfl, rfl, _, rfl, iteD (fun h0 => ?_) (fun h0 => ?_)⟩
    · refine ⟨_, rfl, _, rfl, _, _, rfl, rfl, _, _, rfl, rfl, ⟨by decide, by decide⟩, _, _, rfl, rfl, ?_⟩
      exact ⟨_, rfl, p, _, dx, _, _, rfl, hp, c.cl, c.n5, cf_learned, _, rfl, d, _, rfl, DPut.k (k := Sum.inr z) hd (small1000 (by omega)), last _⟩
    · refine ⟨_, rfl, _, rfl, _, _, rfl, rfl, ⟨by decide, by decide⟩, _, _, rfl, rfl, ?_⟩
      exact ⟨_, rfl, p, _, dx, _, _, rfl, hp, c.cl, c.n5, cf_learned, _, rfl, d, _, rfl, DPut.k (k := Sum.inr z) hd (small1000 (by omega)), last _⟩
end
end K36
namespace K36
open L2 PySem
open PySem.Spec PyProof.Rows
/-- a coder without a field of a method's name -/
theorem CoAt.go {C : Addr} {H : Hp} {p d : Addr} {low br : Int} {ks : List Key} {rest : List (Str × V)} (c : CoAt C H p d low br ks rest) {m : Str} (h : m ∉ (["low", "breadth", "room", "sent", "learned_ones"] : List Str)) (hr : rest.lookup m = none) :
    ∃ dx fs, H p = some (.ins C dx fs) ∧ fs.lookup m = none := by
  obtain ⟨dx, h1⟩ := c.ob
  exact ⟨dx, _, h1, cf_no h hr⟩
theorem CoAt.offL {C : Addr} {H : Hp} {p d l : Addr} {low br : Int} {ks : List Key} {rest : List (Str × V)} {xs : List V} (c : CoAt C H p d low br ks rest) (h : H l = some (.lst xs)) : l ∉ [p, d] := by
  obtain ⟨dx, h1⟩ := c.ob
  obtain ⟨kvs, h2, _⟩ := c.dc
  have n1 : l ≠ p := ne_of h h1 (fun z => nomatch z)
  have n2 : l ≠ d := ne_of h h2 (fun z => nomatch z)
  simp [n1, n2]
def halfP (br : Int) : Int := br / 2048 * 1024
def nm (i : Int) : Str := ((Str.empty ++ "kind") ++ " ") ++ (toString i : String)
theorem nm01 : (Sum.inr (nm 1) : Key) ∉ [Sum.inr (nm 0)] := fun z => absurd (Sum.inr.inj (List.mem_singleton.mp z)) (by decide +kernel)
section
variable {P : Program} {w : World} {K : PySem.W.Frag} {mg : Str → Option Value} {base : Heap}
def spBit (C : Addr) : Sp := fun vs H Q _ => ∃ p d low br ks z v, vs = [.ref p, .str z, .int v] ∧ CoAt C H p d low br ks [] ∧ Sum.inr z ∉ ks ∧ ks.length ≤ 100 ∧ 0 ≤ v ∧ v ≤ 1 ∧ 0 ≤ br ∧ br ≤ 4294967296 ∧ 16777216 ≤ nBr br (halfP br) v ∧
  ∀ H', CoAt C H' p d (nLow low (halfP br) v) (nBr br (halfP br) v) (ks ++ [Sum.inr z]) [] → Kept [p, d] H H' → Q .non H'
theorem mulok {br : Int} (h0 : 0 ≤ br) (h1 : br ≤ 4294967296) : CMul (br / 2048) 1024 := .inr ⟨by decide, by decide⟩
theorem ok_W_bit (T : Txt w K mg) : MtAt P w K mg base 3 "Writer" "bit" ["self", "name", "value"] (spBit (ga K "Writer")) := by
  have g_need_sign : FnAt P w K mg base 2 _ _ spSign := ok_need_sign T
  have g_chance_of : MtAt P w K mg base 1 _ _ _ (spChance (ga K "Writer")) := ok_chance_of T (writerT T)
  have g_narrowed : MtAt P w K mg base 1 _ _ _ (spNarrow (ga K "Writer")) := ok_narrowed T (writerT T)
  have g_learn : MtAt P w K mg base 1 _ _ _ (spLearn (ga K "Writer")) := ok_learn T (writerT T)
  refine MtAt.of T.k_Writer T.m_Writer_bit sc_Writer_bit (fun _ _ _ _ _ _ us hl => match us, hl with | [_, _, _], _ => rfl) (fun vs H Q E h => ?_) (fun cdv A outer s H vs Q E hr h => ?_)
  · obtain ⟨p, d, low, br, ks, z, v, rfl, _⟩ := h
    rfl
  · obtain ⟨p, d, low, br, ks, z, v, rfl, cp, nz, hlen, h0, h1, b0, b1, hb, q⟩ := h
    refine ⟨_, (pss_cons (ps_expr (pe_cal g_need_sign hr (by decide) (pa_cons (pv 2) pa_nil)))
      (pss_cons (ps_set (i := 3) sc_Writer_bit.nd rfl (Or.inl rfl) (pe_mcal g_chance_of hr (by decide) (pv 0) (pa_cons (pv 1) pa_nil)))
      (pss_cons (ps_expr (pe_mcal g_narrowed hr (by decide) (pv 0) (pa_cons (pe_op op_mul (pe_op op_fdiv (pe_fld (pv 0) rfl) (pe_gint T.c_WHOLE)) (pv 3)) (pa_cons (pv 2) pa_nil))))
      (pss_one (ps_expr (pe_mcal g_learn hr (by decide) (pv 0) (pa_cons (pv 1) (pa_cons (pv 3) (pa_cons (pv 2) pa_nil))))))))), ?_⟩
    refine ⟨_, rfl, v, rfl, h0, h1, ?_⟩
    obtain ⟨dx, fs, hp, hno⟩ := cp.go (m := "chance_of") (by decide +kernel) rfl
    refine ⟨_, rfl, p, dx, fs, rfl, hp, hno, _, rfl, p, d, z, low, br, ks, [], rfl, cp, nz, ?_⟩
    obtain ⟨dx, hp⟩ := cp.ob
    refine ⟨_, rfl, p, dx, _, rfl, hp, cf_no (by decide +kernel) rfl, _, rfl, p, _, dx, _, _, rfl, hp, T.k_Writer, T.n_Writer_breadth, cf_breadth, _, _, rfl, rfl, ⟨by decide, by decide⟩, _, rfl, _, _, rfl, rfl, mulok b0 b1, _, rfl, ?_⟩
    refine ⟨p, d, low, br, ks, [], halfP br, v, rfl, cp, hb, fun H1 c1 k1 => ?_⟩
    obtain ⟨dx, fs, hp, hno⟩ := c1.go (m := "learn") (by decide +kernel) rfl
    refine ⟨_, rfl, p, dx, fs, rfl, hp, hno, _, rfl, _, rfl, _, rfl, p, d, _, _, ks, [], z, v, rfl, c1, nz, hlen, fun H2 c2 k2 => ?_⟩
    exact q H2 c2 ((k1.mono (by simp)).trans (k2.mono (by simp)))
def spEven (C : Addr) : Sp := fun vs H Q _ => ∃ p d low br ks v, vs = [.ref p, .int v] ∧ CoAt C H p d low br ks [] ∧ 0 ≤ v ∧ v ≤ 1 ∧ 0 ≤ br ∧ br ≤ 4294967296 ∧ 16777216 ≤ nBr br (halfP br) v ∧
  ∀ H', CoAt C H' p d (nLow low (halfP br) v) (nBr br (halfP br) v) ks [] → Kept [p, d] H H' → Q .non H'
theorem ok_W_even (T : Txt w K mg) : MtAt P w K mg base 3 "Writer" "even" ["self", "value"] (spEven (ga K "Writer")) := by
  have g_need_sign : FnAt P w K mg base 2 _ _ spSign := ok_need_sign T
  have g_narrowed : MtAt P w K mg base 1 _ _ _ (spNarrow (ga K "Writer")) := ok_narrowed T (writerT T)
  refine MtAt.of T.k_Writer T.m_Writer_even sc_Writer_even (fun _ _ _ _ _ _ us hl => match us, hl with | [_, _], _ => rfl) (fun vs H Q E h => ?_) (fun cdv A outer s H vs Q E hr h => ?_)
  · obtain ⟨p, d, low, br, ks, v, rfl, _⟩ := h
    rfl
  · obtain ⟨p, d, low, br, ks, v, rfl, cp, h0, h1, b0, b1, hb, q⟩ := h
    refine ⟨_, (pss_cons (ps_expr (pe_cal g_need_sign hr (by decide) (pa_cons (pv 1) pa_nil)))
      (pss_one (ps_expr (pe_mcal g_narrowed hr (by decide) (pv 0) (pa_cons (pe_op op_mul (pe_op op_fdiv (pe_fld (pv 0) rfl) (pe_gint T.c_WHOLE)) (pe_gint T.c_EVEN)) (pa_cons (pv 1) pa_nil)))))), ?_⟩
    refine ⟨_, rfl, v, rfl, h0, h1, ?_⟩
    obtain ⟨dx, hp⟩ := cp.ob
    refine ⟨_, rfl, p, dx, _, rfl, hp, cf_no (by decide +kernel) rfl, _, rfl, p, _, dx, _, _, rfl, hp, T.k_Writer, T.n_Writer_breadth, cf_breadth, _, _, rfl, rfl, ⟨by decide, by decide⟩, _, _, rfl, rfl, mulok b0 b1, _, rfl, ?_⟩
    refine ⟨p, d, low, br, ks, [], halfP br, v, rfl, cp, hb, fun H1 c1 k1 => ?_⟩
    exact q H1 c1 (k1.mono (by simp))
/-- the coder's way over the number 4 of the name kind -/
def Go2 (i : Nat) (low br : Int) (ks : List Key) : Prop := (i = 0 ∧ low = 0 ∧ br = 4294967296 ∧ ks = []) ∨ (i = 1 ∧ low = 2147483648 ∧ br = 2147483648 ∧ ks = [Sum.inr (nm 0)]) ∨ (i = 2 ∧ low = 3221225472 ∧ br = 1073741824 ∧ ks = [Sum.inr (nm 0), Sum.inr (nm 1)])
def Go3 (i : Nat) (low br : Int) : Prop := (i = 0 ∧ low = 3221225472 ∧ br = 1073741824) ∨ (i = 1 ∧ low = 3221225472 ∧ br = 536870912) ∨ (i = 2 ∧ low = 3489660928 ∧ br = 268435456)
def spNum (C : Addr) : Sp := fun vs H Q _ => ∃ p d, CoAt C H p d 0 4294967296 [] [] ∧ ((vs = [.ref p, .str "kind", .int 0, .int 3] ∧ ∀ H', CoAt C H' p d 0 2147483648 [Sum.inr (nm 0)] [] → Kept [p, d] H H' → Q .non H') ∨
  ∃ m : Int, (m = 5 ∨ m = 6) ∧ vs = [.ref p, .str "kind", .int 4, .int m] ∧ ∀ H', CoAt C H' p d 3489660928 268435456 [Sum.inr (nm 0), Sum.inr (nm 1)] [] → Kept [p, d] H H' → Q .non H')
theorem ok_W_number (T : Txt w K mg) : MtAt P w K mg base 4 "Writer" "number" ["self", "name", "n", "most"] (spNum (ga K "Writer")) := by
  have g_is_whole : FnAt P w K mg base 1 _ _ spYes := ok_whole T
  have g_signs_in : FnAt P w K mg base 1 _ _ spSigns := ok_signs_in T
  have g_lower_signs : FnAt P w K mg base 1 _ _ spLower := ok_lower_signs T
  have g_bit : MtAt P w K mg base 3 _ _ _ (spBit (ga K "Writer")) := ok_W_bit T
  have g_even : MtAt P w K mg base 3 _ _ _ (spEven (ga K "Writer")) := ok_W_even T
  refine MtAt.of T.k_Writer T.m_Writer_number sc_Writer_number (fun _ _ _ _ _ _ us hl => match us, hl with | [_, _, _, _], _ => rfl) (fun vs H Q E h => ?_) (fun cdv A outer s H vs Q E hr h => ?_)
  · obtain ⟨p, d, _, ⟨rfl, _⟩ | ⟨m, _, rfl, _⟩⟩ := h <;> rfl
  · refine ⟨_, (pss_cons (ps_if (PW.pt (pw_or (pt_not (pt_val (pe_cal g_is_whole hr (by decide) (pa_cons (pv 3) (pa_cons pe_int (pa_cons (pe_gint T.c_MOST_NUMBER) pa_nil)))))) (pw_or1 (pt_not (pt_val (pe_cal g_is_whole hr (by decide) (pa_cons (pv 2) (pa_cons pe_int (pa_cons (pv 3) pa_nil))))))))) (pss_one ps_never) pss_nil)
      (pss_cons (ps_set (i := 4) sc_Writer_number.nd rfl (Or.inl rfl) (pe_cal g_signs_in hr (by decide) (pa_cons (pe_op op_add (pv 2) pe_int) pa_nil)))
      (pss_cons (ps_for PassesOwn.never rfl (pi_range1 (by rfl) T.z_range (pa_cons (pv 4) pa_nil)) (pg_name (i := 5) sc_Writer_number.nd rfl (Or.inl rfl)) (pss_one (ps_expr (pe_mcal g_bit hr (by decide) (pv 0) (pa_cons (pe_joined (.cons (pe_fmt (pv 1)) (.cons pe_str (.cons (pe_fmt (pv 5)) .nil)))) (pa_cons pe_int pa_nil))))))
      (pss_cons (ps_if (pt_cmpR op_lt (pv 4) (pe_cal g_signs_in hr (by decide) (pa_cons (pe_op op_add (pv 3) pe_int) pa_nil)) (nomark _)) (pss_one (ps_expr (pe_mcal g_bit hr (by decide) (pv 0) (pa_cons (pe_joined (.cons (pe_fmt (pv 1)) (.cons pe_str (.cons (pe_fmt (pv 4)) .nil)))) (pa_cons pe_int pa_nil))))) pss_nil)
      (pss_one (ps_for PassesOwn.never rfl (pi_list (pe_cal g_lower_signs hr (by decide) (pa_cons (pe_op op_add (pv 2) pe_int) (pa_cons (pv 4) pa_nil)))) (pg_name (i := 6) sc_Writer_number.nd rfl (Or.inl rfl)) (pss_one (ps_expr (pe_mcal g_even hr (by decide) (pv 0) (pa_cons (pv 6) pa_nil)))))))))), ?_⟩
    have l4 : Nat.log2 4 = 2 := by decide
    obtain ⟨p, d, cp, ⟨rfl, q⟩ | ⟨m, hm, rfl, q⟩⟩ := h
    · refine ⟨_, rfl, _, _, _, rfl, by decide, by decide, _, rfl, iteF ?_⟩
      refine ⟨_, rfl, _, rfl, _, _, _, rfl, by decide, by decide, _, rfl, iteF ?_⟩
      refine ⟨_, rfl, _, _, rfl, rfl, 1, rfl, ?_⟩
      refine ⟨_, rfl, 0, rfl, by decide, by decide, ?_⟩
      refine for_it walk_range (fun i σ H' => ∃ v, σ = [some (.ref p), some (.str "kind"), some (.int 0), some (.int 3), some (.int (Nat.log2 1 : Nat)), v, none] ∧ H' = H) ⟨_, rfl, rfl⟩ (fun _ _ _ _ _ => trivial) (fun i x σ H' _ hi => absurd hi (Nat.not_lt_zero _)) ?_
      rintro σ H' ⟨v, rfl, rfl⟩
      refine ⟨_, rfl, _, rfl, _, _, rfl, rfl, 4, rfl, _, _, rfl, rfl, _, rfl, iteD (fun _ => ?_) (fun z => absurd (by decide) z)⟩
      obtain ⟨dx, fs, hp, hno⟩ := cp.go (m := "bit") (by decide +kernel) rfl
      refine ⟨_, rfl, p, dx, fs, rfl, hp, hno, ⟨_, rfl, .inl ⟨_, rfl, line_le 4, _, rfl, line_le 4, _, rfl, line_le 5, _, rfl, .inr ⟨_, rfl, by decide, _, rfl, line_le 6, ?_⟩⟩⟩⟩
      refine ⟨p, d, 0, 4294967296, [], nm 0, 0, rfl, cp, (fun z => nomatch z), by decide, by decide, by decide, by decide, by decide, by decide, fun H1 c1 k1 => ?_⟩
      refine ⟨_, rfl, _, _, rfl, rfl, _, rfl, 1, 0, rfl, by decide, fun l H2 s2 hl => ?_⟩
      refine ⟨l, rfl, ⟨_, .of hl⟩, ?_⟩
      refine for_it (walk_list (K := K) (xs := [])) (fun i σ H' => ∃ v, σ = [some (.ref p), some (.str "kind"), some (.int 0), some (.int 3), some (.int (Nat.log2 1 : Nat)), v, none] ∧ H' = H2) ⟨_, rfl, rfl⟩ (fun i σ H' _ h => by obtain ⟨_, _, rfl⟩ := h; exact .of hl) (fun i x σ H' _ hi => absurd hi (Nat.not_lt_zero _)) ?_
      rintro σ H' ⟨v, rfl, rfl⟩
      exact q _ (c1.same s2) (k1.trans s2.kept)
    · have l5 : Nat.log2 5 = 2 := by decide
      obtain ⟨n, hn, ln⟩ : ∃ n : Nat, m + 1 = n ∧ Nat.log2 n = 2 := by
        rcases hm with rfl | rfl
        · exact ⟨6, rfl, by decide⟩
        · exact ⟨7, rfl, by decide⟩
      refine ⟨_, rfl, _, _, _, rfl, by omega, by omega, _, rfl, iteF ?_⟩
      refine ⟨_, rfl, _, rfl, _, _, _, rfl, by decide, by omega, _, rfl, iteF ?_⟩
      refine ⟨_, rfl, _, _, rfl, rfl, 5, rfl, ?_⟩
      refine ⟨_, rfl, 2, rfl, by decide, by decide, ?_⟩
      refine for_it walk_range (fun i σ H' => ∃ v low br ks, σ = [some (.ref p), some (.str "kind"), some (.int 4), some (.int m), some (.int (Nat.log2 5 : Nat)), v, none] ∧ Go2 i low br ks ∧ CoAt (ga K "Writer") H' p d low br ks [] ∧ Kept [p, d] H H')
        ⟨_, _, _, _, rfl, .inl ⟨rfl, rfl, rfl, rfl⟩, cp, (Same.refl _).kept⟩ (fun _ _ _ _ _ => trivial) ?_ ?_
      · rintro i x σ H' _ hi ⟨v, low, br, ks, rfl, go, c1, k1⟩ ⟨rfl, rfl⟩
        have hi' : i < 2 := hi
        obtain ⟨dx, fs, hp, hno⟩ := c1.go (m := "bit") (by decide +kernel) rfl
        rcases go with ⟨rfl, rfl, rfl, rfl⟩ | ⟨rfl, rfl, rfl, rfl⟩ | ⟨rfl, _⟩
        · refine ⟨_, rfl, p, dx, fs, rfl, hp, hno, ⟨_, rfl, .inl ⟨_, rfl, line_le 4, _, rfl, line_le 4, _, rfl, line_le 5, _, rfl, .inr ⟨_, rfl, by decide, _, rfl, line_le 6, ?_⟩⟩⟩⟩
          refine ⟨p, d, 0, 4294967296, [], nm 0, 1, rfl, c1, (fun z => nomatch z), by decide, by decide, by decide, by decide, by decide, by decide, fun H1 c2 k2 => ?_⟩
          exact ⟨_, _, _, _, rfl, .inr (.inl ⟨rfl, rfl, rfl, rfl⟩), c2, k1.trans k2⟩
        · refine ⟨_, rfl, p, dx, fs, rfl, hp, hno, ⟨_, rfl, .inl ⟨_, rfl, line_le 4, _, rfl, line_le 4, _, rfl, line_le 5, _, rfl, .inr ⟨_, rfl, by decide, _, rfl, line_le 6, ?_⟩⟩⟩⟩
          refine ⟨p, d, 2147483648, 2147483648, [Sum.inr (nm 0)], nm 1, 1, rfl, c1, nm01, by decide, by decide, by decide, by decide, by decide, by decide, fun H1 c2 k2 => ?_⟩
          exact ⟨_, _, _, _, rfl, .inr (.inr ⟨rfl, rfl, rfl, rfl⟩), c2, k1.trans k2⟩
        · exact absurd hi' (by decide)
      · rintro σ H' ⟨v, low, br, ks, rfl, go, c1, k1⟩
        obtain ⟨rfl, rfl, rfl⟩ : low = 3221225472 ∧ br = 1073741824 ∧ ks = [Sum.inr (nm 0), Sum.inr (nm 1)] := by
          rcases go with ⟨z, _⟩ | ⟨z, _⟩ | ⟨_, h⟩
          · exact absurd z (by decide)
          · exact absurd z (by decide)
          · exact h
        refine ⟨_, rfl, _, rfl, _, _, rfl, rfl, n, (by show [V.int (m + 1)] = [V.int n]; rw [hn]), _, _, rfl, rfl, _, rfl, iteD (fun z => absurd z (by rw [ln, l5]; decide)) fun _ => ?_⟩
        refine ⟨_, rfl, _, _, rfl, rfl, _, rfl, 5, 2, rfl, by decide, fun l H2 s2 hl => ?_⟩
        refine ⟨l, rfl, ⟨_, .of hl⟩, ?_⟩
        refine for_it (walk_list (K := K) (xs := [.int 0, .int 1])) (fun i σ H' => ∃ v low br w, σ = [some (.ref p), some (.str "kind"), some (.int 4), some (.int m), some (.int (Nat.log2 5 : Nat)), v, w] ∧ Go3 i low br ∧ CoAt (ga K "Writer") H' p d low br [Sum.inr (nm 0), Sum.inr (nm 1)] [] ∧ Kept [p, d] H H' ∧ H' l = some (.lst [.int 0, .int 1]))
          ⟨_, _, _, _, rfl, .inl ⟨rfl, rfl, rfl⟩, c1.same s2, k1.trans s2.kept, hl⟩ (fun i σ H' _ h => by obtain ⟨_, _, _, _, _, _, _, _, e⟩ := h; exact .of e) ?_ ?_
        · rintro i x σ H' _ hi ⟨v, low, br, w, rfl, go, c3, k3, e3⟩ ⟨rfl, hx⟩
          have hi' : i < 2 := hi
          obtain ⟨dx, fs, hp, hno⟩ := c3.go (m := "even") (by decide +kernel) rfl
          rcases go with ⟨rfl, rfl, rfl⟩ | ⟨rfl, rfl, rfl⟩ | ⟨rfl, _⟩
          · obtain rfl : V.int 0 = x := Option.some.inj hx
            refine ⟨_, rfl, p, dx, fs, rfl, hp, hno, _, rfl, p, d, _, _, _, 0, rfl, c3, by decide, by decide, by decide, by decide, by decide, fun H1 c4 k4 => ?_⟩
            exact ⟨_, _, _, _, rfl, .inr (.inl ⟨rfl, rfl, rfl⟩), c4, k3.trans k4, k4 _ _ e3 (c3.offL e3)⟩
          · obtain rfl : V.int 1 = x := Option.some.inj hx
            refine ⟨_, rfl, p, dx, fs, rfl, hp, hno, _, rfl, p, d, _, _, _, 1, rfl, c3, by decide, by decide, by decide, by decide, by decide, fun H1 c4 k4 => ?_⟩
            exact ⟨_, _, _, _, rfl, .inr (.inr ⟨rfl, rfl, rfl⟩), c4, k3.trans k4, k4 _ _ e3 (c3.offL e3)⟩
          · exact absurd hi' (by decide)
        · rintro σ H' ⟨v, low, br, w, rfl, go, c3, k3, e3⟩
          obtain ⟨rfl, rfl⟩ : low = 3489660928 ∧ br = 268435456 := by
            rcases go with ⟨z, _⟩ | ⟨z, _⟩ | ⟨_, h⟩
            · exact absurd z (by decide)
            · exact absurd z (by decide)
            · exact h
          exact q _ c3 k3
def spLetters (K : PySem.W.Frag) (C : Addr) : Sp := fun vs H Q _ => ∃ p d ks, vs = [.ref p] ∧ ((CoAt C H p d 0 1073741824 ks [] ∧ ∀ t H', Same H H' → H' t = some (.tup []) → Q (.ref t) H') ∨
  ∃ br : Int, (br = 268435456 ∨ br = 134217728) ∧ CoAt C H p d 3489660928 br ks [] ∧ ∀ t H', Same H H' → H' t = some (.tup [.int 208]) → Q (.ref t) H')
theorem ok_W_letters (T : Txt w K mg) : MtAt P w K mg base 2 "Writer" "letters" ["self"] (spLetters K (ga K "Writer")) := by
  have g_letters_in : FnAt P w K mg base 1 _ _ spLettersIn := ok_letters_in T
  refine MtAt.of T.k_Writer T.m_Writer_letters sc_Writer_letters (fun _ _ _ _ _ _ us hl => match us, hl with | [_], _ => rfl) (fun vs H Q E h => ?_) (fun cdv A outer s H vs Q E hr h => ?_)
  · obtain ⟨p, d, ks, rfl, _⟩ := h
    rfl
  · refine ⟨_, (pss_cons (ps_par (i := 1) (j := 2) rfl sc_Writer_letters.nd rfl rfl (by decide) rfl rfl (pa_cons pe_int (pa_cons (pe_fld (pv 0) rfl) pa_nil)) (by rfl))
      (pss_cons (ps_while PassesOwn.never (pt_cmpR op_ge (pe_op op_mul (pe_op op_fdivW (pe_op op_sub (pe_op op_add (pe_fld (pv 0) rfl) (pv 2)) pe_int) (pv 2)) (pv 2)) (pe_op op_add (pe_fld (pv 0) rfl) (pe_fld (pv 0) rfl)) (nomark _)) (pss_cons (ps_aug (i := 1) sc_Writer_letters.nd rfl (Or.inl rfl) pe_int ip_add)
      (pss_one (ps_set (i := 2) sc_Writer_letters.nd rfl (Or.inl rfl) (pe_op op_fdiv (pv 2) pe_int)))))
      (pss_one (ps_ret (pe_cal g_letters_in hr (by decide) (pa_cons (pe_op op_fdivW (pe_op op_sub (pe_op op_add (pe_fld (pv 0) rfl) (pv 2)) pe_int) (pv 2)) (pa_cons (pv 1) pa_nil))))))), ?_⟩
    obtain ⟨p, d, ks, rfl, ⟨cp, q⟩ | ⟨br, hb, cp, q⟩⟩ := h
    · obtain ⟨dx, hp⟩ := cp.ob
      refine ⟨_, rfl, p, _, dx, _, _, rfl, hp, T.k_Writer, T.n_Writer_room, cf_room, ?_⟩
      refine ⟨_, _, rfl, ?_⟩
      refine ⟨fun m σ H' => σ = [some (.ref p), some (.int 0), some (.int 4294967296)] ∧ H' = H, ⟨0, rfl, rfl⟩, ?_⟩
      rintro m σ H' ⟨rfl, rfl⟩
      refine ⟨_, rfl, p, _, dx, _, _, rfl, hp, T.k_Writer, T.n_Writer_low, cf_low, _, rfl, _, _, rfl, rfl, _, _, rfl, rfl, _, rfl, _, _, rfl, rfl, ⟨by decide, by decide⟩, _, rfl, _, _, rfl, rfl, .inl ⟨by decide, by decide⟩, ?_⟩
      refine ⟨_, rfl, p, _, dx, _, _, rfl, hp, T.k_Writer, T.n_Writer_low, cf_low, _, rfl, p, _, dx, _, _, rfl, hp, T.k_Writer, T.n_Writer_breadth, cf_breadth, _, _, rfl, rfl, _, _, rfl, rfl, _, rfl, iteD (fun z => absurd z (by decide)) fun _ => ?_⟩
      refine ⟨_, rfl, p, _, dx, _, _, rfl, hp, T.k_Writer, T.n_Writer_low, cf_low, _, rfl, _, _, rfl, rfl, _, _, rfl, rfl, _, rfl, _, _, rfl, rfl, ⟨by decide, by decide⟩, _, rfl, _, 0, rfl, by decide, fun t H2 s2 ht => ?_⟩
      exact q t H2 s2 ht
    · obtain ⟨dx, hp⟩ := cp.ob
      refine ⟨_, rfl, p, _, dx, _, _, rfl, hp, T.k_Writer, T.n_Writer_room, cf_room, ?_⟩
      refine ⟨_, _, rfl, ?_⟩
      refine ⟨fun m σ H' => ((m = 1 ∧ σ = [some (.ref p), some (.int 0), some (.int 4294967296)]) ∨ m = 0 ∧ σ = [some (.ref p), some (.int 1), some (.int 16777216)]) ∧ H' = H, ⟨1, .inl ⟨rfl, rfl⟩, rfl⟩, ?_⟩
      rintro m σ H' ⟨⟨rfl, rfl⟩ | ⟨rfl, rfl⟩, rfl⟩
      · refine ⟨_, rfl, p, _, dx, _, _, rfl, hp, T.k_Writer, T.n_Writer_low, cf_low, _, rfl, _, _, rfl, rfl, _, _, rfl, rfl, _, rfl, _, _, rfl, rfl, ⟨by decide, by decide⟩, _, rfl, _, _, rfl, rfl, .inl ⟨by decide, by decide⟩, ?_⟩
        refine ⟨_, rfl, p, _, dx, _, _, rfl, hp, T.k_Writer, T.n_Writer_low, cf_low, _, rfl, p, _, dx, _, _, rfl, hp, T.k_Writer, T.n_Writer_breadth, cf_breadth, _, _, rfl, rfl, _, _, rfl, rfl, _, rfl, iteD (fun _ => ?_) (fun z => absurd (?_ : _ ≤ _) z)⟩
        · refine ⟨fun σ' H2 => σ' = [some (.ref p), some (.int 1), some (.int 16777216)] ∧ H2 = H', ?_, ?_⟩
          · rintro σ' H2 ⟨rfl, rfl⟩
            exact ⟨0, by decide, .inr ⟨rfl, rfl⟩, rfl⟩
          · refine ⟨_, rfl, _, _, rfl, rfl, ?_⟩
            refine ⟨_, rfl, _, _, rfl, rfl, ⟨by decide, by decide⟩, ?_⟩
            exact ⟨rfl, rfl⟩
        · rcases hb with rfl | rfl <;> decide
      · refine ⟨_, rfl, p, _, dx, _, _, rfl, hp, T.k_Writer, T.n_Writer_low, cf_low, _, rfl, _, _, rfl, rfl, _, _, rfl, rfl, _, rfl, _, _, rfl, rfl, ⟨by decide, by decide⟩, _, rfl, _, _, rfl, rfl, .inl ⟨by decide, by decide⟩, ?_⟩
        refine ⟨_, rfl, p, _, dx, _, _, rfl, hp, T.k_Writer, T.n_Writer_low, cf_low, _, rfl, p, _, dx, _, _, rfl, hp, T.k_Writer, T.n_Writer_breadth, cf_breadth, _, _, rfl, rfl, _, _, rfl, rfl, _, rfl, iteD (fun z => absurd z ?_) fun _ => ?_⟩
        · rcases hb with rfl | rfl <;> decide
        refine ⟨_, rfl, p, _, dx, _, _, rfl, hp, T.k_Writer, T.n_Writer_low, cf_low, _, rfl, _, _, rfl, rfl, _, _, rfl, rfl, _, rfl, _, _, rfl, rfl, ⟨by decide, by decide⟩, _, rfl, _, 1, rfl, by decide, fun t H2 s2 ht => ?_⟩
        exact q t H2 s2 ht
end
end K36
namespace K36
open L2 PySem
open PySem.Spec PyProof.Rows
theorem CoAt.put {C : Addr} {H : Hp} {p d dx : Addr} {low br : Int} {ks : List Key} {rest : List (Str × V)} {m : Str} {v : V} (c : CoAt C H p d low br ks rest)
    (hm : ∀ g ∈ (["low", "breadth", "room", "sent", "learned_ones"] : List Str), ¬ g = m) (hl : (putF m v rest).length ≤ 10) :
    CoAt C (upd H p (.ins C dx (putF m v (cf low br d rest)))) p d low br ks (putF m v rest) := by
  obtain ⟨kvs, h2, h3⟩ := c.dc
  refine ⟨⟨dx, ?_⟩, ⟨kvs, ?_, h3⟩, hl⟩
  · rw [upd_same, cf_put hm]
  · rw [upd_ne c.ne.symm]
    exact h2
/-- none of these is a tracked tuple -/
def NotTup (ps : List Addr) (H : Hp) : Prop := ∀ x ∈ ps, ∀ xs, H x ≠ some (.tup xs) ∧ ∀ o, H x ≠ some (.frz o (.tup xs))
theorem Kept.tupN {K : PySem.W.Frag} {ps : List Addr} {H H' : Hp} {a : Addr} {xs : List V} (k : Kept ps H H') (h : SqT K H a xs) (n : NotTup ps H) : SqT K H' a xs := by
  rcases h with (h | ⟨o, h⟩) | h
  · exact .inl (.inl (k _ _ h fun z => (n a z xs).1 h))
  · exact .inl (.inr ⟨o, k _ _ h fun z => (n a z xs).2 o h⟩)
  · exact .inr h
theorem CoAt.notTup {C : Addr} {H : Hp} {p d : Addr} {low br : Int} {ks : List Key} {rest : List (Str × V)} (c : CoAt C H p d low br ks rest) : NotTup [p, d] H := by
  obtain ⟨dx, h1⟩ := c.ob
  obtain ⟨kvs, h2, _⟩ := c.dc
  intro x hx xs
  rcases List.mem_cons.mp hx with rfl | hx
  · rw [h1]
    exact ⟨(fun z => nomatch z), fun o z => nomatch z⟩
  · obtain rfl := List.mem_singleton.mp hx
    rw [h2]
    exact ⟨(fun z => nomatch z), fun o z => nomatch z⟩
theorem CoAt.notTup1 {C : Addr} {H : Hp} {p d : Addr} {low br : Int} {ks : List Key} {rest : List (Str × V)} (c : CoAt C H p d low br ks rest) : NotTup [p] H := fun x hx => c.notTup x (by
  obtain rfl := List.mem_singleton.mp hx
  simp)
def rds (t : Addr) (c : Int) : List (Str × V) := [("signs", .ref t), ("code", .int c)]
theorem rds_put {t : Addr} {c c2 : Int} : putF "code" (V.int c2) (rds t c) = rds t c2 := (pf_tl (f := "code") (g := "signs") (by decide +kernel)).trans (congrArg (_ :: ·) pf_hd)
theorem rds_put0 {t : Addr} {c : Int} : putF "code" (V.int c) (putF "signs" (V.ref t) []) = rds t c := (pf_tl (f := "code") (g := "signs") (by decide +kernel)).trans rfl
theorem rds_signs {t : Addr} {c : Int} : (rds t c).lookup ("signs" : Str) = some (.ref t) := lk_hd
theorem rds_code {t : Addr} {c : Int} : (rds t c).lookup ("code" : Str) = some (.int c) := (lk_tl (by decide +kernel)).trans lk_hd
theorem rds_no {t : Addr} {c : Int} {m : Str} (h1 : ¬ m = "signs") (h2 : ¬ m = "code") : (rds t c).lookup m = none := (lk_tl h1).trans ((lk_tl h2).trans rfl)
/-- the letters of a stream: none, or one -/
def LetsOf (L : List V) (b : Int) : Prop := (L = [] ∧ b = 0) ∨ L = [.int b]
def codeA (b : Int) : Nat → Int
  | 0 => 0
  | i + 1 => codeA b i * 256 + if i = 0 then b else 0
section
variable {P : Program} {w : World} {K : PySem.W.Frag} {mg : Str → Option Value} {base : Heap}
def spSignAt (K : PySem.W.Frag) (C : Addr) : Sp := fun vs H Q _ => ∃ p d low br ks rest t L b, ∃ i : Nat, vs = [.ref p, .int i] ∧ CoAt C H p d low br ks rest ∧ rest.lookup ("signs" : Str) = some (.ref t) ∧ SqT K H t L ∧ LetsOf L b ∧ Q (.int (if i = 0 then b else 0)) H
theorem ok_sign_at (T : Txt w K mg) : MtAt P w K mg base 1 "Reader" "sign_at" ["self", "at"] (spSignAt K (ga K "Reader")) := by
  refine MtAt.of T.k_Reader T.m_Reader_sign_at sc_Reader_sign_at (fun _ _ _ _ _ _ us hl => match us, hl with | [_, _], _ => rfl) (fun vs H Q E h => ?_) (fun cdv A outer s H vs Q E hr h => ?_)
  · obtain ⟨p, d, low, br, ks, rest, t, L, b, i, rfl, _⟩ := h
    rfl
  · obtain ⟨p, d, low, br, ks, rest, t, L, b, i, rfl, cp, ht, hL, lo, q⟩ := h
    refine ⟨_, (pss_one (ps_ret (pe_ifExp (pt_cmpR op_lt (pv 1) (pe_callB (callK_len K) (by rfl) T.z_len PySem.boot_len (pa_cons (pe_fld (pv 0) rfl) pa_nil)) (nomark _)) (pe_ix (ixK_tup K) (pe_fld (pv 0) rfl) (pv 1) (fun _ _ => rfl)) pe_int))), ?_⟩
    obtain ⟨dx, hp⟩ := cp.ob
    have ls : (cf low br d rest).lookup ("signs" : Str) = some (.ref t) := (cf_tl (by decide +kernel)).trans ht
    refine ⟨_, rfl, _, rfl, p, _, dx, _, _, rfl, hp, T.k_Reader, T.n_Reader_signs, ls, t, L, rfl, .inr hL, _, _, rfl, rfl, _, rfl, iteD (fun h1 => ?_) fun h1 => ?_⟩
    · rcases lo with ⟨rfl, rfl⟩ | rfl
      · exact absurd h1 (by simp)
      · have h2 : i = 0 := by
          have : (i : Int) < 1 := h1
          omega
        subst h2
        refine ⟨_, rfl, p, _, dx, _, _, rfl, hp, T.k_Reader, T.n_Reader_signs, ls, _, rfl, t, _, 0, .int b, rfl, rfl, hL, rfl, q⟩
    · rcases lo with ⟨rfl, rfl⟩ | rfl
      · rw [ite_self] at q
        exact q
      · have h2 : ¬ i = 0 := by
          have : ¬ (i : Int) < 1 := h1
          omega
        rw [if_neg h2] at q
        exact q
def spRdInit (K : PySem.W.Frag) (C : Addr) : Sp := fun vs H Q _ => ∃ p dx l L b, vs = [.ref p, .ref l] ∧ H p = some (.ins C dx []) ∧ SqT K H l L ∧ LetsOf L b ∧
  ∀ d t H', H d = none → SqT K H' t L → CoAt C H' p d 0 4294967296 [] (rds t (b * 16777216)) → Kept [p] H H' → Q .non H'
theorem ok_Reader_init (T : Txt w K mg) : MkAt P w K mg base 2 "Reader" ["self", "letters"] (spRdInit K (ga K "Reader")) := by
  obtain ⟨kp, rd, fc, fd0, F0⟩ := T.i_Coder
  have G0 : FnOk P w K mg base CX0 1 _ fd0 ["self"] (spCoInit (ga K "Reader")) := co_init T (readerT T) F0
  have b0 : Binds K fd0 ["self"] [] := F0.binds (fun _ _ _ _ _ _ us hl => match us, hl with | [_], _ => rfl)
  have g_sign_at : MtAt P w K mg base 1 _ _ _ (spSignAt K (ga K "Reader")) := ok_sign_at T
  refine MkAt.of T.g_Reader T.i_Reader sc_Reader___init__ (fun _ _ _ _ _ _ us hl => match us, hl with | [_, _], _ => rfl) (fun vs H Q E h => ?_) (fun cdv A outer s H vs Q E hr h => ?_)
  · obtain ⟨p, dx, l, L, b, rfl, _⟩ := h
    rfl
  · obtain ⟨p, dx, l, L, b, rfl, hp, hl, lo, q⟩ := h
    refine ⟨_, (pss_cons (ps_expr (pe_clsm T.g_Coder rd fc kp G0 b0 hr (by decide) (pa_cons (pv 0) pa_nil)))
      (pss_cons (ps_fld (pv 0) (pe_callTy call_tuple_of (by rfl) T.z_tuple bb_tuple (pa_cons (pv 1) pa_nil)) rfl)
      (pss_cons (ps_fld (pv 0) pe_int rfl)
      (pss_one (ps_for PassesOwn.never rfl (pi_range1 (by rfl) T.z_range (pa_cons (pe_gint T.c_AHEAD) pa_nil)) (pg_name (i := 2) sc_Reader___init__.nd rfl (Or.inl rfl)) (pss_one (ps_fld (pv 0) (pe_op op_add (pe_op op_mul (pe_fld (pv 0) rfl) pe_int) (pe_mcal g_sign_at hr (by decide) (pv 0) (pa_cons (pv 2) pa_nil))) rfl))))))), ?_⟩
    refine ⟨_, rfl, p, dx, rfl, hp, fun d H1 hd c1 k1 => ?_⟩
    have n0 : NotTup [p] H := fun x hx => by
      obtain rfl : p = x := (List.mem_singleton.mp hx).symm
      intro xs
      rw [hp]
      exact ⟨(fun z => nomatch z), fun o z => nomatch z⟩
    have hl1 : SqT K H1 l L := k1.tupN hl n0
    obtain ⟨dx1, hp1⟩ := c1.ob
    refine ⟨_, rfl, l, L, rfl, .inr ⟨hl1, _, rfl, p, _, dx1, _, rfl, hp1, T.k_Reader, T.n_Reader_signs, cf_len (by decide), ?_⟩⟩
    have c2 := c1.put (dx := dx1) (m := "signs") (v := .ref l) (by decide +kernel) (by show 1 ≤ 10; decide)
    have k2 : Kept [p] H1 (upd H1 p (.ins (ga K "Reader") dx1 (putF "signs" (V.ref l) (cf 0 4294967296 d [])))) := kept_upd (by simp)
    generalize (upd H1 p (.ins (ga K "Reader") dx1 (putF "signs" (V.ref l) (cf 0 4294967296 d [])))) = H2 at c2 k2
    have hl2 : SqT K H2 l L := k2.tupN hl1 c1.notTup1
    obtain ⟨dx2, hp2⟩ := c2.ob
    refine ⟨_, rfl, p, _, dx2, _, rfl, hp2, T.k_Reader, T.n_Reader_code, cf_len (by show 1 ≤ 10; decide), ?_⟩
    have c3 := c2.put (dx := dx2) (m := "code") (v := .int 0) (by decide +kernel) (by rw [rds_put0]; show 2 ≤ 10; decide)
    rw [rds_put0] at c3
    have k3 : Kept [p] H2 (upd H2 p (.ins (ga K "Reader") dx2 (putF "code" (V.int 0) (cf 0 4294967296 d (putF "signs" (V.ref l) []))))) := kept_upd (by simp)
    generalize (upd H2 p (.ins (ga K "Reader") dx2 (putF "code" (V.int 0) (cf 0 4294967296 d (putF "signs" (V.ref l) []))))) = H3 at c3 k3
    have hl3 : SqT K H3 l L := k3.tupN hl2 c2.notTup1
    refine ⟨4, rfl, by decide, by decide, ?_⟩
    refine for_it walk_range (fun i σ H' => ∃ v, σ = [some (.ref p), some (.ref l), v] ∧ CoAt (ga K "Reader") H' p d 0 4294967296 [] (rds l (codeA b i)) ∧ Kept [p] H H' ∧ SqT K H' l L) ⟨_, rfl, c3, (k1.trans k2).trans k3, hl3⟩ (fun _ _ _ _ _ => trivial) ?_ ?_
    · rintro i x σ H0 H' hi ⟨v, rfl, c4, k4, hl4⟩ ⟨rfl, rfl⟩
      obtain ⟨dx3, hp3⟩ := c4.ob
      refine ⟨_, rfl, p, _, dx3, _, _, rfl, hp3, T.k_Reader, T.n_Reader_code, (cf_tl (by decide +kernel)).trans rds_code, _, _, rfl, rfl, .inr ⟨by decide, by decide⟩, ?_⟩
      refine ⟨_, rfl, p, dx3, _, rfl, hp3, cf_no (by decide +kernel) (rds_no (by decide +kernel) (by decide +kernel)), _, rfl, p, d, _, _, _, _, l, L, b, i, (by simp), c4, rds_signs, hl4, lo, _, _, rfl, rfl, ?_⟩
      refine ⟨_, rfl, p, _, dx3, _, rfl, hp3, T.k_Reader, T.n_Reader_code, cf_len (by show 2 ≤ 10; decide), ?_⟩
      have c5 := c4.put (dx := dx3) (m := "code") (v := .int (codeA b (i + 1))) (by decide +kernel) (by rw [rds_put]; show 2 ≤ 10; decide)
      rw [rds_put] at c5
      have k5 : Kept [p] H' (upd H' p (.ins (ga K "Reader") dx3 (putF "code" (V.int (codeA b (i + 1))) (cf 0 4294967296 d (rds l (codeA b i)))))) := kept_upd (by simp)
      exact ⟨_, rfl, c5, k4.trans k5, k5.tupN hl4 c4.notTup1⟩
    · rintro σ H' ⟨v, rfl, c4, k4, hl4⟩
      have e : codeA b (Int.toNat 4) = b * 16777216 := by
        show (((0 * 256 + b) * 256 + 0) * 256 + 0) * 256 + 0 = b * 16777216
        omega
      rw [e] at c4
      exact q d l H' hd hl4 c4 k4
end
end K36
namespace K36
open L2 PySem
open PySem.Spec PyProof.Rows
/-- the sign that is read of the code c -/
def rv (c low br : Int) : Int := if low + halfP br ≤ c then 1 else 0
theorem rv01 (c low br : Int) : rv c low br = 0 ∨ rv c low br = 1 := by
  unfold rv
  split
  · exact .inr rfl
  · exact .inl rfl
theorem CoAt.goR {C : Addr} {H : Hp} {p d : Addr} {low br : Int} {ks : List Key} {t : Addr} {c : Int} (cp : CoAt C H p d low br ks (rds t c)) {m : Str} (h : m ∉ (["low", "breadth", "room", "sent", "learned_ones"] : List Str)) (h1 : ¬ m = "signs") (h2 : ¬ m = "code") :
    ∃ dx fs, H p = some (.ins C dx fs) ∧ fs.lookup m = none := cp.go h (rds_no h1 h2)
section
variable {P : Program} {w : World} {K : PySem.W.Frag} {mg : Str → Option Value} {base : Heap}
def spReadBy (C : Addr) : Sp := fun vs H Q _ => ∃ p d low br ks t c, vs = [.ref p, .int 1024] ∧ CoAt C H p d low br ks (rds t c) ∧ 0 ≤ br ∧ br ≤ 4294967296 ∧ 16777216 ≤ nBr br (halfP br) (rv c low br) ∧
  ∀ H', CoAt C H' p d (nLow low (halfP br) (rv c low br)) (nBr br (halfP br) (rv c low br)) ks (rds t c) → Kept [p, d] H H' → Q (.int (rv c low br)) H'
theorem ok_read_by (T : Txt w K mg) : MtAt P w K mg base 2 "Reader" "read_by" ["self", "chance"] (spReadBy (ga K "Reader")) := by
  have g_narrowed : MtAt P w K mg base 1 _ _ _ (spNarrow (ga K "Reader")) := ok_narrowed T (readerT T)
  refine MtAt.of T.k_Reader T.m_Reader_read_by sc_Reader_read_by (fun _ _ _ _ _ _ us hl => match us, hl with | [_, _], _ => rfl) (fun vs H Q E h => ?_) (fun cdv A outer s H vs Q E hr h => ?_)
  · obtain ⟨p, d, low, br, ks, t, c, rfl, _⟩ := h
    rfl
  · obtain ⟨p, d, low, br, ks, t, c, rfl, cp, b0, b1, hb, q⟩ := h
    refine ⟨_, (pss_cons (ps_set (i := 2) sc_Reader_read_by.nd rfl (Or.inl rfl) (pe_op op_mul (pe_op op_fdiv (pe_fld (pv 0) rfl) (pe_gint T.c_WHOLE)) (pv 1)))
      (pss_cons (ps_set (i := 3) sc_Reader_read_by.nd rfl (Or.inl rfl) (pe_callTy call_int1 (by rfl) T.z_int bb_int (pa_cons (pe_cmpR op_ge (pe_fld (pv 0) rfl) (pe_op op_add (pe_fld (pv 0) rfl) (pv 2)) (nomark _)) pa_nil)))
      (pss_cons (ps_expr (pe_mcal g_narrowed hr (by decide) (pv 0) (pa_cons (pv 2) (pa_cons (pv 3) pa_nil))))
      (pss_one (ps_ret (pv 3)))))), ?_⟩
    obtain ⟨dx, hp⟩ := cp.ob
    refine ⟨_, rfl, p, _, dx, _, _, rfl, hp, T.k_Reader, T.n_Reader_breadth, cf_breadth, _, _, rfl, rfl, ⟨by decide, by decide⟩, _, rfl, _, _, rfl, rfl, mulok b0 b1, ?_⟩
    refine ⟨_, rfl, p, _, dx, _, _, rfl, hp, T.k_Reader, T.n_Reader_code, (cf_tl (by decide +kernel)).trans rds_code, _, rfl, p, _, dx, _, _, rfl, hp, T.k_Reader, T.n_Reader_low, cf_low, _, rfl, _, _, rfl, rfl, _, _, rfl, rfl, .inr ⟨_, rfl, ?_⟩⟩
    have e : (if (decide (low + br / 2048 * 1024 ≤ c)) = true then (1 : Int) else 0) = rv c low br := by
      unfold rv halfP
      simp
    rw [e]
    refine ⟨_, rfl, p, dx, _, rfl, hp, cf_no (by decide +kernel) (rds_no (by decide +kernel) (by decide +kernel)), _, rfl, _, rfl, p, d, low, br, ks, _, _, _, rfl, cp, hb, fun H1 c1 k1 => ?_⟩
    exact ⟨_, rfl, q H1 c1 (k1.mono (by simp))⟩
def spRBit (C : Addr) : Sp := fun vs H Q _ => ∃ p d low br ks t c z, vs = [.ref p, .str z] ∧ CoAt C H p d low br ks (rds t c) ∧ Sum.inr z ∉ ks ∧ ks.length ≤ 100 ∧ 0 ≤ br ∧ br ≤ 4294967296 ∧ 16777216 ≤ nBr br (halfP br) (rv c low br) ∧
  ∀ H', CoAt C H' p d (nLow low (halfP br) (rv c low br)) (nBr br (halfP br) (rv c low br)) (ks ++ [Sum.inr z]) (rds t c) → Kept [p, d] H H' → Q (.int (rv c low br)) H'
theorem ok_R_bit (T : Txt w K mg) : MtAt P w K mg base 3 "Reader" "bit" ["self", "name"] (spRBit (ga K "Reader")) := by
  have g_chance_of : MtAt P w K mg base 1 _ _ _ (spChance (ga K "Reader")) := ok_chance_of T (readerT T)
  have g_learn : MtAt P w K mg base 1 _ _ _ (spLearn (ga K "Reader")) := ok_learn T (readerT T)
  have g_read_by : MtAt P w K mg base 2 _ _ _ (spReadBy (ga K "Reader")) := ok_read_by T
  refine MtAt.of T.k_Reader T.m_Reader_bit sc_Reader_bit (fun _ _ _ _ _ _ us hl => match us, hl with | [_, _], _ => rfl) (fun vs H Q E h => ?_) (fun cdv A outer s H vs Q E hr h => ?_)
  · obtain ⟨p, d, low, br, ks, t, c, z, rfl, _⟩ := h
    rfl
  · obtain ⟨p, d, low, br, ks, t, c, z, rfl, cp, nz, hlen, b0, b1, hb, q⟩ := h
    refine ⟨_, (pss_cons (ps_set (i := 2) sc_Reader_bit.nd rfl (Or.inl rfl) (pe_mcal g_chance_of hr (by decide) (pv 0) (pa_cons (pv 1) pa_nil)))
      (pss_cons (ps_set (i := 3) sc_Reader_bit.nd rfl (Or.inl rfl) (pe_mcal g_read_by hr (by decide) (pv 0) (pa_cons (pv 2) pa_nil)))
      (pss_cons (ps_expr (pe_mcal g_learn hr (by decide) (pv 0) (pa_cons (pv 1) (pa_cons (pv 2) (pa_cons (pv 3) pa_nil)))))
      (pss_one (ps_ret (pv 3)))))), ?_⟩
    obtain ⟨dx, fs, hp, hno⟩ := cp.goR (m := "chance_of") (by decide +kernel) (by decide +kernel) (by decide +kernel)
    refine ⟨_, rfl, p, dx, fs, rfl, hp, hno, _, rfl, p, d, z, low, br, ks, _, rfl, cp, nz, ?_⟩
    obtain ⟨dx, fs, hp, hno⟩ := cp.goR (m := "read_by") (by decide +kernel) (by decide +kernel) (by decide +kernel)
    refine ⟨_, rfl, p, dx, fs, rfl, hp, hno, _, rfl, p, d, low, br, ks, t, c, rfl, cp, b0, b1, hb, fun H1 c1 k1 => ?_⟩
    obtain ⟨dx, fs, hp, hno⟩ := c1.goR (m := "learn") (by decide +kernel) (by decide +kernel) (by decide +kernel)
    refine ⟨_, rfl, p, dx, fs, rfl, hp, hno, _, rfl, _, rfl, _, rfl, p, d, _, _, ks, _, z, _, rfl, c1, nz, hlen, fun H2 c2 k2 => ?_⟩
    exact ⟨_, rfl, q H2 c2 (k1.trans (k2.mono (by simp)))⟩
def spREven (C : Addr) : Sp := fun vs H Q _ => ∃ p d low br ks t c, vs = [.ref p] ∧ CoAt C H p d low br ks (rds t c) ∧ 0 ≤ br ∧ br ≤ 4294967296 ∧ 16777216 ≤ nBr br (halfP br) (rv c low br) ∧
  ∀ H', CoAt C H' p d (nLow low (halfP br) (rv c low br)) (nBr br (halfP br) (rv c low br)) ks (rds t c) → Kept [p, d] H H' → Q (.int (rv c low br)) H'
theorem ok_R_even (T : Txt w K mg) : MtAt P w K mg base 3 "Reader" "even" ["self"] (spREven (ga K "Reader")) := by
  have g_read_by : MtAt P w K mg base 2 _ _ _ (spReadBy (ga K "Reader")) := ok_read_by T
  refine MtAt.of T.k_Reader T.m_Reader_even sc_Reader_even (fun _ _ _ _ _ _ us hl => match us, hl with | [_], _ => rfl) (fun vs H Q E h => ?_) (fun cdv A outer s H vs Q E hr h => ?_)
  · obtain ⟨p, d, low, br, ks, t, c, rfl, _⟩ := h
    rfl
  · obtain ⟨p, d, low, br, ks, t, c, rfl, cp, b0, b1, hb, q⟩ := h
    refine ⟨_, (pss_one (ps_ret (pe_mcal g_read_by hr (by decide) (pv 0) (pa_cons (pe_gint T.c_EVEN) pa_nil)))), ?_⟩
    obtain ⟨dx, fs, hp, hno⟩ := cp.goR (m := "read_by") (by decide +kernel) (by decide +kernel) (by decide +kernel)
    exact ⟨_, rfl, p, dx, fs, rfl, hp, hno, p, d, low, br, ks, t, c, rfl, cp, b0, b1, hb, q⟩
def spRNum (C : Addr) : Sp := fun vs H Q _ => ∃ p d t c, CoAt C H p d 0 4294967296 [] (rds t c) ∧ ((c = 0 ∧ vs = [.ref p, .str "kind", .int 3] ∧ ∀ H', CoAt C H' p d 0 2147483648 [Sum.inr (nm 0)] (rds t c) → Kept [p, d] H H' → Q (.int 0) H') ∨
  (c = 3489660928 ∧ ∃ m : Int, (m = 5 ∨ m = 6) ∧ vs = [.ref p, .str "kind", .int m] ∧ ∀ H', CoAt C H' p d 3489660928 268435456 [Sum.inr (nm 0), Sum.inr (nm 1)] (rds t c) → Kept [p, d] H H' → Q (.int 4) H'))
theorem ok_R_number (T : Txt w K mg) : MtAt P w K mg base 4 "Reader" "number" ["self", "name", "most"] (spRNum (ga K "Reader")) := by
  have g_is_whole : FnAt P w K mg base 1 _ _ spYes := ok_whole T
  have g_signs_in : FnAt P w K mg base 1 _ _ spSigns := ok_signs_in T
  have g_bit : MtAt P w K mg base 3 _ _ _ (spRBit (ga K "Reader")) := ok_R_bit T
  have g_even : MtAt P w K mg base 3 _ _ _ (spREven (ga K "Reader")) := ok_R_even T
  refine MtAt.of T.k_Reader T.m_Reader_number sc_Reader_number (fun _ _ _ _ _ _ us hl => match us, hl with | [_, _, _], _ => rfl) (fun vs H Q E h => ?_) (fun cdv A outer s H vs Q E hr h => ?_)
  · obtain ⟨p, d, t, c, _, ⟨_, rfl, _⟩ | ⟨_, m, _, rfl, _⟩⟩ := h <;> rfl
  · refine ⟨_, (pss_cons (ps_if (pt_not (pt_val (pe_cal g_is_whole hr (by decide) (pa_cons (pv 2) (pa_cons pe_int (pa_cons (pe_gint T.c_MOST_NUMBER) pa_nil)))))) (pss_one ps_never) pss_nil)
      (pss_cons (ps_par (i := 5) (j := 6) rfl sc_Reader_number.nd rfl rfl (by decide) rfl rfl (pa_cons (pe_cal g_signs_in hr (by decide) (pa_cons (pe_op op_add (pv 2) pe_int) pa_nil)) (pa_cons pe_int pa_nil)) (by rfl))
      (pss_cons (ps_while PassesOwn.never (PW.pt (pw_and (pt_cmpR op_lt (pv 6) (pv 5) (nomark _)) (pw_and1 (pt_cmpR op_eq (pe_mcal g_bit hr (by decide) (pv 0) (pa_cons (pe_joined (.cons (pe_fmt (pv 1)) (.cons pe_str (.cons (pe_fmt (pv 6)) .nil)))) pa_nil)) pe_int (nomark _))))) (pss_one (ps_aug (i := 6) sc_Reader_number.nd rfl (Or.inl rfl) pe_int ip_add)))
      (pss_cons (ps_set (i := 3) sc_Reader_number.nd rfl (Or.inl rfl) pe_int)
      (pss_cons (ps_for PassesOwn.never rfl (pi_range1 (by rfl) T.z_range (pa_cons (pv 6) pa_nil)) (pg_name (i := 4) sc_Reader_number.nd rfl (Or.inl rfl)) (pss_one (ps_set (i := 3) sc_Reader_number.nd rfl (Or.inl rfl) (pe_op op_add (pe_op op_mul pe_int (pv 3)) (pe_mcal0 g_even hr (by decide) (pv 0))))))
      (pss_one (ps_ret (pe_callB (call_min2 rfl) (by rfl) T.z_min bb_min (pa_cons (pe_op op_sub (pv 3) pe_int) (pa_cons (pv 2) pa_nil)))))))))), ?_⟩
    obtain ⟨p, d, t, c, cp, ⟨rfl, rfl, q⟩ | ⟨rfl, m, hm, rfl, q⟩⟩ := h
    · refine ⟨_, rfl, _, _, _, rfl, by decide, by decide, _, rfl, iteF ?_⟩
      refine ⟨_, rfl, _, _, rfl, rfl, 4, rfl, ?_⟩
      refine ⟨_, _, rfl, ?_⟩
      refine ⟨fun m σ H' => σ = [some (.ref p), some (.str "kind"), some (.int 3), none, none, some (.int (Nat.log2 4 : Nat)), some (.int 0)] ∧ H' = H, ⟨0, rfl, rfl⟩, ?_⟩
      rintro m σ H' ⟨rfl, rfl⟩
      obtain ⟨dx, fs, hp, hno⟩ := cp.goR (m := "bit") (by decide +kernel) (by decide +kernel) (by decide +kernel)
      refine ⟨_, rfl, _, rfl, _, _, rfl, rfl, _, rfl, iteD (fun _ => ?_) (fun z => absurd (by decide) z)⟩
      refine ⟨_, rfl, p, dx, fs, rfl, hp, hno, ⟨_, rfl, .inl ⟨_, rfl, line_le 4, _, rfl, line_le 4, _, rfl, line_le 5, _, rfl, .inr ⟨_, rfl, by decide, _, rfl, line_le 6, ?_⟩⟩⟩⟩
      refine ⟨p, d, 0, 4294967296, [], t, 0, nm 0, rfl, cp, (fun z => nomatch z), by decide, by decide, by decide, by decide, fun H1 c1 k1 => ?_⟩
      refine ⟨rfl, _, rfl, iteD (fun z => absurd (V.int.inj z) (by decide)) fun _ => ?_⟩
      refine ⟨_, rfl, 0, rfl, by decide, by decide, ?_⟩
      refine for_it walk_range (fun i σ H' => ∃ v, σ = [some (.ref p), some (.str "kind"), some (.int 3), some (.int 1), v, some (.int (Nat.log2 4 : Nat)), some (.int 0)] ∧ H' = H1) ⟨_, rfl, rfl⟩ (fun _ _ _ _ _ => trivial) (fun i x σ H' _ hi => absurd hi (Nat.not_lt_zero _)) ?_
      rintro σ H2 ⟨v, rfl, rfl⟩
      exact ⟨_, rfl, _, _, rfl, rfl, _, rfl, _, _, rfl, q _ c1 k1⟩
    · obtain ⟨n, hn, ln⟩ : ∃ n : Nat, m + 1 = n ∧ Nat.log2 n = 2 := by
        rcases hm with rfl | rfl
        · exact ⟨6, rfl, by decide⟩
        · exact ⟨7, rfl, by decide⟩
      refine ⟨_, rfl, _, _, _, rfl, by omega, by omega, _, rfl, iteF ?_⟩
      refine ⟨_, rfl, _, _, rfl, rfl, n, (by show [V.int (m + 1)] = [V.int n]; rw [hn]), ?_⟩
      rw [ln]
      refine ⟨_, _, rfl, ?_⟩
      refine ⟨fun k σ H' => ∃ i low br ks, k + i = 2 ∧ σ = [some (.ref p), some (.str "kind"), some (.int m), none, none, some (.int 2), some (.int (i : Nat))] ∧ Go2 i low br ks ∧ CoAt (ga K "Reader") H' p d low br ks (rds t 3489660928) ∧ Kept [p, d] H H',
        ⟨2, 0, _, _, _, rfl, rfl, .inl ⟨rfl, rfl, rfl, rfl⟩, cp, (Same.refl _).kept⟩, ?_⟩
      rintro k σ H' ⟨i, low, br, ks, hk, rfl, go, c1, k1⟩
      obtain ⟨dx, fs, hp, hno⟩ := c1.goR (m := "bit") (by decide +kernel) (by decide +kernel) (by decide +kernel)
      refine ⟨_, rfl, _, rfl, _, _, rfl, rfl, _, rfl, iteD (fun h2 => ?_) (fun h2 => ?_)⟩
      · rcases go with ⟨rfl, rfl, rfl, rfl⟩ | ⟨rfl, rfl, rfl, rfl⟩ | ⟨rfl, _⟩
        · refine ⟨_, rfl, p, dx, fs, rfl, hp, hno, ⟨_, rfl, .inl ⟨_, rfl, line_le 4, _, rfl, line_le 4, _, rfl, line_le 5, _, rfl, .inr ⟨_, rfl, by decide, _, rfl, line_le 6, ?_⟩⟩⟩⟩
          refine ⟨p, d, _, _, [], t, 3489660928, nm 0, rfl, c1, (fun z => nomatch z), by decide, by decide, by decide, by decide, fun H1 c2 k2 => ?_⟩
          refine ⟨rfl, _, rfl, iteD (fun _ => ?_) fun z => absurd (congrArg V.int (by decide)) z⟩
          refine ⟨fun σ' H2 => σ' = [some (.ref p), some (.str "kind"), some (.int m), none, none, some (.int 2), some (.int 1)] ∧ H2 = H1, ?_, ?_⟩
          · rintro σ' H2 ⟨rfl, rfl⟩
            exact ⟨1, by omega, 1, _, _, _, rfl, rfl, .inr (.inl ⟨rfl, rfl, rfl, rfl⟩), c2, k1.trans k2⟩
          · exact ⟨_, rfl, _, _, rfl, rfl, rfl, rfl⟩
        · refine ⟨_, rfl, p, dx, fs, rfl, hp, hno, ⟨_, rfl, .inl ⟨_, rfl, line_le 4, _, rfl, line_le 4, _, rfl, line_le 5, _, rfl, .inr ⟨_, rfl, by decide, _, rfl, line_le 6, ?_⟩⟩⟩⟩
          refine ⟨p, d, _, _, _, t, 3489660928, nm 1, rfl, c1, nm01, by decide, by decide, by decide, by decide, fun H1 c2 k2 => ?_⟩
          refine ⟨rfl, _, rfl, iteD (fun _ => ?_) fun z => absurd (congrArg V.int (by decide)) z⟩
          refine ⟨fun σ' H2 => σ' = [some (.ref p), some (.str "kind"), some (.int m), none, none, some (.int 2), some (.int 2)] ∧ H2 = H1, ?_, ?_⟩
          · rintro σ' H2 ⟨rfl, rfl⟩
            exact ⟨0, by omega, 2, _, _, _, rfl, rfl, .inr (.inr ⟨rfl, rfl, rfl, rfl⟩), c2, k1.trans k2⟩
          · exact ⟨_, rfl, _, _, rfl, rfl, rfl, rfl⟩
        · exact absurd h2 (by decide)
      · have hi2 : i = 2 := by
          have : ¬ (i : Int) < 2 := h2
          omega
        subst hi2
        obtain ⟨rfl, rfl, rfl⟩ : low = 3221225472 ∧ br = 1073741824 ∧ ks = [Sum.inr (nm 0), Sum.inr (nm 1)] := by
          rcases go with ⟨z, _⟩ | ⟨z, _⟩ | ⟨_, h⟩
          · exact absurd z (by decide)
          · exact absurd z (by decide)
          · exact h
        refine ⟨_, rfl, 2, rfl, by decide, by decide, ?_⟩
        refine for_it walk_range (fun i σ H' => ∃ f v low br, σ = [some (.ref p), some (.str "kind"), some (.int m), some (.int f), v, some (.int 2), some (.int (2 : Nat))] ∧ Go3 i low br ∧ f = (if i = 0 then 1 else if i = 1 then 2 else 5) ∧ CoAt (ga K "Reader") H' p d low br [Sum.inr (nm 0), Sum.inr (nm 1)] (rds t 3489660928) ∧ Kept [p, d] H H')
          ⟨_, _, _, _, rfl, .inl ⟨rfl, rfl, rfl⟩, rfl, c1, k1⟩ (fun _ _ _ _ _ => trivial) ?_ ?_
        · rintro i x σ H0 H2 hi ⟨f, v, low, br, rfl, go, hf, c3, k3⟩ ⟨rfl, rfl⟩
          have hi' : i < 2 := hi
          obtain ⟨dx, fs, hp, hno⟩ := c3.goR (m := "even") (by decide +kernel) (by decide +kernel) (by decide +kernel)
          rcases go with ⟨rfl, rfl, rfl⟩ | ⟨rfl, rfl, rfl⟩ | ⟨rfl, _⟩
          · refine ⟨_, rfl, _, _, rfl, rfl, .inl ⟨by decide, by decide⟩, _, rfl, p, dx, fs, rfl, hp, hno, p, d, _, _, _, t, _, rfl, c3, by decide, by decide, by decide, fun H1 c4 k4 => ?_⟩
            exact ⟨_, _, rfl, rfl, _, _, _, _, rfl, .inr (.inl ⟨rfl, rfl, rfl⟩), by rw [hf]; decide, c4, k3.trans k4⟩
          · refine ⟨_, rfl, _, _, rfl, rfl, .inl ⟨by decide, by decide⟩, _, rfl, p, dx, fs, rfl, hp, hno, p, d, _, _, _, t, _, rfl, c3, by decide, by decide, by decide, fun H1 c4 k4 => ?_⟩
            exact ⟨_, _, rfl, rfl, _, _, _, _, rfl, .inr (.inr ⟨rfl, rfl, rfl⟩), by rw [hf]; decide, c4, k3.trans k4⟩
          · exact absurd hi' (by decide)
        · rintro σ H2 ⟨f, v, low, br, rfl, go, hf, c3, k3⟩
          obtain ⟨rfl, rfl⟩ : low = 3489660928 ∧ br = 268435456 := by
            rcases go with ⟨z, _⟩ | ⟨z, _⟩ | ⟨_, h⟩
            · exact absurd z (by decide)
            · exact absurd z (by decide)
            · exact h
          have hf : f = 5 := hf
          subst hf
          refine ⟨_, rfl, _, _, rfl, rfl, _, rfl, _, _, rfl, ?_⟩
          rw [if_neg (by omega)]
          exact q _ c3 k3
end
end K36
namespace K36
open L2 PySem
open PySem.Spec PyProof.Rows
/-- a tuple whose object is known to have no dict -/
def PlainT (K : PySem.W.Frag) (H : Hp) (p : Addr) : Prop := (∃ o : Obj, K.lookup p = some o ∧ o.cls = .type "tuple" ∧ o.dict = none) ∨ ∃ (o : Obj) (u : HO), H p = some (.frz o u) ∧ o.cls = .type "tuple" ∧ o.dict = none
theorem PlainT.same {K : PySem.W.Frag} {H H' : Hp} {p : Addr} (h : PlainT K H p) (s : Same H H') : PlainT K H' p := by
  rcases h with h | ⟨o, u, h, h2⟩
  · exact .inl h
  · exact .inr ⟨o, u, s _ _ h, h2⟩
theorem PlainT.kept {K : PySem.W.Frag} {ps : List Addr} {H H' : Hp} {p : Addr} (h : PlainT K H p) (s : Kept ps H H') (n : p ∉ ps) : PlainT K H' p := by
  rcases h with h | ⟨o, u, h, h2⟩
  · exact .inl h
  · exact .inr ⟨o, u, s _ _ h n, h2⟩
theorem TupK.plain {K : PySem.W.Frag} {a : Addr} {xs : List V} (h : TupK K a xs) (H : Hp) : PlainT K H a := let ⟨o, _, _, h1, h2, _, _, _, h6⟩ := h; .inl ⟨o, h1, h2, h6⟩
def rTIdx (K : PySem.W.Frag) : V → List V → Hp → VK → Prop := fun x xs H Q => ∃ p, ∃ ys : List Str, ∃ z j, x = .ref p ∧ xs = [.str z] ∧ SqT K H p (ys.map V.str) ∧ ys[j]? = some z ∧ (∀ m, m < j → ys[m]? ≠ some z) ∧ Q (.int (j : Nat)) H
def tTIdx (K : PySem.W.Frag) (to : TE) (t : TA) : TE := fun σ H Q => to σ H fun x H1 => (∃ p, x = .ref p ∧ PlainT K H1 p) ∧ t σ H1 fun xs H2 => rTIdx K x xs H2 Q
section
variable {X : Cx} {o e : Expr} {es : List Expr} {to : TE} {t : TA} {apos cpos : Pos}
/-- t.index(x) of a plain tuple -/
theorem pe_tidx (ho : PE X o to) (ha : PA X (e :: es) t)
    (hbase : attributeBase o "index" X.env (eval o X.env) = eval o X.env := by rfl)
    (hfew : ((backTo cpos (starEach (e :: es) X.env)).all (fun x => !x.1) && (backToKw cpos (keywordEach [] X.env)).all (fun x => x.1.isSome)
      && decide ((e :: es).length + ([] : List Keyword).length + (if ([] : List Keyword).isEmpty then 0 else 1) < 30)) = true := by rfl)
    (hline : (apos.endLine == cpos.line) = true := by rfl) (hs : starEach (e :: es) X.env = (false, eval e X.env) :: starEach es X.env := by rfl) (hplain : (backTo cpos (starEach es X.env)).any (·.1) = false := by rfl) :
    PE X (.Call (.Attribute o "index" apos) (e :: es) [] cpos) (tTIdx X.K to t) := by
  refine ⟨fun pins s σ H Q I h => ?_⟩
  refine wpAny_Call_method_late hbase hfew hline rfl (thn (ho.run pins s σ H _ I h) fun v s1 ⟨x, H1, I1, r1, ⟨p, ex, pt⟩, q1⟩ => ?_)
  subst ex
  cases r1
  have h12 : s1.TypeIs (.ref p) "tuple" ∧ ∀ a, Value.ref p = .ref a → ∃ ob, s1.heap.get? a = some ob ∧ ob.dict = none := by
    rcases pt with ⟨ob, hk, hc, hd⟩ | ⟨ob, u, hk, hc, hd⟩
    · exact ⟨⟨ob, I1.kIn p ob hk, hc⟩, fun a z => by cases z; exact ⟨ob, I1.kIn _ ob hk, hd⟩⟩
    · have e := (I1.hok p _ hk).1
      exact ⟨⟨ob, e, hc⟩, fun a z => by cases z; exact ⟨ob, e, hd⟩⟩
  refine ⟨"tuple", "tuple.index", PySem.F.plainAttrs_tuple, PySem.F.slot_tuple_index, PySem.F.type_tuple_index, h12.1, h12.2, ?_⟩
  have hA := ha.run cpos pins s1 σ H1 _ I1 q1
  rw [hs] at hA ⊢
  refine Calls.callWith_builtin (by show (false || (backTo cpos (starEach es X.env)).any (·.1)) = false; rw [hplain] <;> rfl) (Calls.evalArgs_plain ?_)
  exact thn hA fun us s2 ⟨vs, H2, I2, r2, q2⟩ => mt_tup_index pins s2 σ H2 (.ref p) vs (.ref p) us Q I2 rfl r2 q2
/-- t + u, t not empty: what is made is a plain tuple -/
def rCatF (K : PySem.W.Frag) : R2 := fun x y H Q => ∃ a b xs ys, x = .ref a ∧ y = .ref b ∧ SqT K H a xs ∧ SqT K H b ys ∧ xs ≠ [] ∧ xs.length + ys.length ≤ sizeLine ∧
  (ys = [] → Q (.ref a) H) ∧ (ys ≠ [] → ∀ p o, H p = none → o.cls = .type "tuple" → o.dict = none → Q (.ref p) (upd H p (.frz o (.tup (xs ++ ys)))))
theorem op_catF : OpR X (binaryOp .Add) (rCatF X.K) := by
  intro pins s σ H x y v u Q I rx ry h
  obtain ⟨a, b, xs, ys, rfl, rfl, ha, hb, hx, hz, q1, q2⟩ := h
  cases rx
  cases ry
  obtain ⟨its, r1, p1, _⟩ := I.tuple ha
  obtain ⟨its2, r2, p2, _⟩ := I.tuple hb
  refine HT.cat_tup p1 p2 (fun z => hx (r1.nil_iff.mp z)) (fun z => ⟨.ref a, H, I, rfl, q1 (r2.nil_iff.mp z)⟩) (fun z => ?_) (by rw [← r1.length, ← r2.length]; exact hz)
  refine ⟨.ref s.heap.objs.size, _, I.laid (t' := s.toks) (o := .frz { cls := .type "tuple", data := .seq (its ++ its2).toArray } (.tup (xs ++ ys))) (fun b ob q => Heap.get?_push_of_some _ q) (Nat.le_refl _) ?_, rfl,
    q2 (fun w => z (r2.nil_iff.mpr w)) _ _ (I.hok.fresh (Nat.le_refl _)) rfl rfl⟩
  exact ⟨Heap.get?_push_size _ rfl, by rw [List.length_append]; exact hz, _, r1.append r2, IsTup.new _ _⟩
end
section
variable {P : Program} {w : World} {K : PySem.W.Frag} {mg : Str → Option Value} {base : Heap}
def spKindsX (K : PySem.W.Frag) : Sp := fun vs H Q _ => ∃ r : Int, vs = [.int r] ∧ (r = 0 ∨ r = 1 ∨ r = 2) ∧ ∀ p H', Same H H' → SqT K H' p (kindsV r) → PlainT K H' p → Q (.ref p) H'
theorem ok_kinds_forX (T : Txt w K mg) : FnAt P w K mg base 1 "kinds_for" ["reads"] (spKindsX K) := by
  refine FnAt.of T.f_kinds_for sc_kinds_for (fun _ _ _ _ _ _ us hl => match us, hl with | [_], _ => rfl) (fun vs H Q E h => ?_) (fun cdv A outer s H vs Q E hr h => ?_)
  · obtain ⟨r, rfl, _⟩ := h
    rfl
  · obtain ⟨r, rfl, h1, q⟩ := h
    refine ⟨_, (pss_one (ps_ret (pe_op op_catF (pe_gref T.c_BESIDE.1) (pe_slice sl_tupA (pe_tup (pa_cons pe_str (pa_cons pe_str (pa_cons pe_str pa_nil)))) po_none (po_some (pe_ix (ixK_list K) (pe_lst (pa_cons pe_int (pa_cons pe_int (pa_cons pe_int pa_nil)))) (pv 0) (fun _ _ => rfl))))))), ?_⟩
    refine ⟨by rw [sizeLine_eq]; decide, fun t ht => ⟨by rw [sizeLine_eq]; decide, fun l hl => ?_⟩⟩
    have s1 : Same H (upd H t (.tup [.str "as", .str "moved", .str "both"])) := same_new ht
    have s2 : Same H (upd (upd H t (.tup [.str "as", .str "moved", .str "both"])) l (.lst [.int 0, .int 2, .int 3])) := s1.new hl
    have et : SqT K (upd (upd H t (.tup [.str "as", .str "moved", .str "both"])) l (.lst [.int 0, .int 2, .int 3])) t [.str "as", .str "moved", .str "both"] := (same_new hl).tup (.of upd_same)
    rcases h1 with rfl | rfl | rfl
    · refine ⟨_, rfl, l, _, 0, .int 0, rfl, rfl, .of upd_same, rfl, 0, rfl, t, _, rfl, et, fun z => absurd z (by decide +kernel), fun _ p hp => ?_⟩
      refine ⟨_, p, _, _, rfl, rfl, T.c_BESIDE.2.seq _, .of upd_same, (by decide), by rw [sizeLine_eq]; decide +kernel, fun _ => ?_, fun z => absurd rfl z⟩
      exact q _ _ (s2.new hp) (T.c_BESIDE.2.seq _) (T.c_BESIDE.2.plain _)
    · refine ⟨_, rfl, l, _, 1, .int 2, rfl, rfl, .of upd_same, rfl, 2, rfl, t, _, rfl, et, fun z => absurd z (by decide +kernel), fun _ p hp => ?_⟩
      refine ⟨_, p, _, _, rfl, rfl, T.c_BESIDE.2.seq _, .of upd_same, (by decide), by rw [sizeLine_eq]; decide +kernel, fun z => absurd z (by decide +kernel), fun _ u o hu c1 c2 => ?_⟩
      exact q _ _ ((s2.new hp).new hu) (.inl (.inr ⟨o, upd_same⟩)) (.inr ⟨o, _, upd_same, c1, c2⟩)
    · refine ⟨_, rfl, l, _, 2, .int 3, rfl, rfl, .of upd_same, rfl, 3, rfl, t, _, rfl, et, fun _ => ?_, fun z => absurd (by decide +kernel) z⟩
      refine ⟨_, t, _, _, rfl, rfl, T.c_BESIDE.2.seq _, et, (by decide), by rw [sizeLine_eq]; decide +kernel, fun z => absurd z (by decide +kernel), fun _ u o hu c1 c2 => ?_⟩
      exact q _ _ (s2.new hu) (.inl (.inr ⟨o, upd_same⟩)) (.inr ⟨o, _, upd_same, c1, c2⟩)
end
end K36
namespace K36
open L2 PySem
open PySem.Spec PyProof.Rows
def sR : Key := Sum.inr "rest"
def sW : Key := Sum.inr "which"
theorem nm0_rest : (Sum.inr "rest" : Key) ∉ [(Sum.inr (nm 0) : Key)] := fun z => absurd (Sum.inr.inj (List.mem_singleton.mp z)) (by decide +kernel)
theorem nm_which : (Sum.inr "which" : Key) ∉ [(Sum.inr (nm 0) : Key), Sum.inr (nm 1)] := fun z => by
  rcases List.mem_cons.mp z with z | z
  · exact absurd (Sum.inr.inj z) (by decide +kernel)
  · exact absurd (Sum.inr.inj (List.mem_singleton.mp z)) (by decide +kernel)
def kindsS (r : Int) : List Str := if r = 0 then ["flat", "left", "above", "slope"] else if r = 1 then ["flat", "left", "above", "slope", "as", "moved"] else ["flat", "left", "above", "slope", "as", "moved", "both"]
theorem kindsS_map {r : Int} (h : r = 0 ∨ r = 1 ∨ r = 2) : kindsV r = (kindsS r).map V.str := by rcases h with rfl | rfl | rfl <;> rfl
section
variable {P : Program} {w : World} {K : PySem.W.Frag} {mg : Str → Option Value} {base : Heap}
def spWRest (K : PySem.W.Frag) (C : Addr) : Sp := fun vs H Q _ => ∃ p d a, vs = [.ref p, .ref a] ∧ SqT K H a zeros ∧ CoAt C H p d 0 2147483648 [Sum.inr (nm 0)] [] ∧ ∀ H', CoAt C H' p d 0 1073741824 [Sum.inr (nm 0), Sum.inr "rest"] [] → Kept [p, d] H H' → Q .non H'
theorem ok_write_rest (T : Txt w K mg) : FnAt P w K mg base 4 "write_rest" ["writer", "rest"] (spWRest K (ga K "Writer")) := by
  have g_bit : MtAt P w K mg base 3 _ _ _ (spBit (ga K "Writer")) := ok_W_bit T
  refine FnAt.of T.f_write_rest sc_write_rest (fun _ _ _ _ _ _ us hl => match us, hl with | [_, _], _ => rfl) (fun vs H Q E h => ?_) (fun cdv A outer s H vs Q E hr h => ?_)
  · obtain ⟨p, d, a, rfl, _⟩ := h
    rfl
  · obtain ⟨p, d, a, rfl, ha, cp, q⟩ := h
    refine ⟨_, (pss_cons (ps_expr (pe_mcal g_bit hr (by decide) (pv 0) (pa_cons pe_str (pa_cons (pe_callTy call_int1 (by rfl) T.z_int bb_int (pa_cons (pe_cmpR (op_neD hr.units) (pv 1) (pe_gref T.c_NO_REST.1) (nomark _)) pa_nil)) pa_nil))))
      (pss_one (ps_if (pt_cmpR (op_neD hr.units) (pv 1) (pe_gref T.c_NO_REST.1) (nomark _)) (pss_one ps_never) pss_nil))), ?_⟩
    obtain ⟨dx, fs, hp, hno⟩ := cp.go (m := "bit") (by decide +kernel) rfl
    refine ⟨_, rfl, p, dx, fs, rfl, hp, hno, _, rfl, _, _, .tup ha dp_zeros, .tup (T.c_NO_REST.2.seq _) dp_zeros, by decide +kernel, by decide +kernel, .inr ⟨_, rfl, ?_⟩⟩
    refine ⟨p, d, 0, 2147483648, _, "rest", 0, by rw [show PyData.eqv (PyData.tuple ((List.replicate 16 (0 : Int)).map PyData.int)) (PyData.tuple ((List.replicate 16 (0 : Int)).map PyData.int)) = true by decide +kernel]; rfl, cp, nm0_rest, by decide, by decide, by decide, by decide, by decide, by decide, fun H1 c1 k1 => ?_⟩
    refine ⟨_, rfl, _, _, .tup (k1.tupN ha cp.notTup) dp_zeros, .tup (T.c_NO_REST.2.seq _) dp_zeros, by decide +kernel, by decide +kernel, _, rfl, iteF ?_⟩
    exact q H1 c1 k1
/-- how a writer stands behind its one choice -/
def WFin (C : Addr) (H : Hp) (p d : Addr) (r : Int) : Prop := ∃ ks, (r = 0 ∧ CoAt C H p d 0 1073741824 ks []) ∨ ((r = 1 ∨ r = 2) ∧ ∃ br : Int, (br = 268435456 ∨ br = 134217728) ∧ CoAt C H p d 3489660928 br ks [])
theorem WFin.same {C : Addr} {H H' : Hp} {p d : Addr} {r : Int} (h : WFin C H p d r) (s : Same H H') : WFin C H' p d r := by
  obtain ⟨ks, ⟨e, c⟩ | ⟨e, br, hb, c⟩⟩ := h
  · exact ⟨ks, .inl ⟨e, c.same s⟩⟩
  · exact ⟨ks, .inr ⟨e, br, hb, c.same s⟩⟩
def spWChoice (K : PySem.W.Frag) (C : Addr) : Sp := fun vs H Q _ => ∃ p d c g r, vs = [.ref p, .ref c, g, .int r] ∧ ChoiceAt K H r c ∧ CoAt C H p d 0 4294967296 [] [] ∧ ∀ H', WFin C H' p d r → Kept [p, d] H H' → Q .non H'
theorem ok_write_choice (T : Txt w K mg) : FnAt P w K mg base 5 "write_choice" ["writer", "choice", "guess", "reads"] (spWChoice K (ga K "Writer")) := by
  have g_kinds_for : FnAt P w K mg base 1 _ _ (spKindsX K) := ok_kinds_forX T
  have g_write_rest : FnAt P w K mg base 4 _ _ (spWRest K (ga K "Writer")) := ok_write_rest T
  have g_bit : MtAt P w K mg base 3 _ _ _ (spBit (ga K "Writer")) := ok_W_bit T
  have g_number : MtAt P w K mg base 4 _ _ _ (spNum (ga K "Writer")) := ok_W_number T
  refine FnAt.of T.f_write_choice sc_write_choice (fun _ _ _ _ _ _ us hl => match us, hl with | [_, _, _, _], _ => rfl) (fun vs H Q E h => ?_) (fun cdv A outer s H vs Q E hr h => ?_)
  · obtain ⟨p, d, c, g, r, rfl, _⟩ := h
    rfl
  · obtain ⟨p, d, c, g, r, rfl, hc, cp, q⟩ := h
    refine ⟨_, (pss_cons (ps_asg (pv 1) (pg_star1 rfl (pg_name (i := 5) sc_write_choice.nd rfl (Or.inl rfl)) (pg_name (i := 6) sc_write_choice.nd rfl (Or.inl rfl))))
      (pss_cons (ps_set (i := 4) sc_write_choice.nd rfl (Or.inl rfl) (pe_cal g_kinds_for hr (by decide) (pa_cons (pv 3) pa_nil)))
      (pss_cons (ps_expr (pe_mcal g_number hr (by decide) (pv 0) (pa_cons pe_str (pa_cons (pe_tidx (pv 4) (pa_cons (pv 5) pa_nil)) (pa_cons (pe_op op_sub (pe_callB (callK_len K) (by rfl) T.z_len PySem.boot_len (pa_cons (pv 4) pa_nil)) pe_int) pa_nil)))))
      (pss_cons (ps_if (PW.pt (pw_and (pt_cmpR (opK_in K) (pv 5) (pe_tup (pa_cons pe_str (pa_cons pe_str pa_nil))) (by rfl)) (pw_and1 (pt_cmpR op_eq (pv 3) pe_int (nomark _))))) (pss_one (ps_expr (pe_mcal g_bit hr (by decide) (pv 0) (pa_cons pe_str (pa_cons (pe_ix (ixK_list K) (pv 6) pe_int (fun _ _ => rfl)) pa_nil))))) pss_nil)
      (pss_cons (ps_if (pt_cmpR op_eq (pv 5) pe_str (nomark _)) (pss_one ps_never) (pss_one (ps_if (pt_cmpR op_eq (pv 5) pe_str (nomark _)) (pss_cons ps_never
      (pss_one ps_never)) pss_nil)))
      (pss_one (ps_if (pt_cmpR op_ne (pv 5) pe_str (nomark _)) (pss_one (ps_expr (pe_cal g_write_rest hr (by decide) (pa_cons (pv 0) (pa_cons (pe_ix (ixK_list K) (pv 6) (pe_un un_neg pe_int) (fun _ _ => rfl)) pa_nil))))) pss_nil))))))), ?_⟩
    rcases hc with ⟨rfl, z, hc, hz⟩ | ⟨h12, hc⟩
    · refine ⟨_, rfl, c, _, _, rfl, hc, (show 1 ≤ 1000 by decide), fun D hD => ?_⟩
      have s1 : Same H (upd H D (.lst [.ref z])) := same_new hD
      refine ⟨_, rfl, 0, rfl, .inl rfl, fun kp H1 s2 hk pt => ?_⟩
      have c1 := cp.same (s1.trans s2)
      obtain ⟨dx, fs, hp, hno⟩ := c1.go (m := "number") (by decide +kernel) rfl
      refine ⟨_, rfl, p, dx, fs, rfl, hp, hno, ?_⟩
      refine ⟨_, rfl, ⟨kp, rfl, pt⟩, _, rfl, kp, kindsS 0, "flat", 0, rfl, rfl, hk, rfl, (fun m hm => absurd hm (Nat.not_lt_zero _)), ?_⟩
      refine ⟨_, rfl, kp, _, rfl, .inr hk, _, _, rfl, rfl, ?_⟩
      refine ⟨p, d, c1, .inl ⟨rfl, fun H2 c2 k2 => ?_⟩⟩
      have eD : H2 D = some (.lst [.ref z]) := k2 _ _ (s2 _ _ upd_same) (c1.offL (s2 _ _ upd_same))
      have hz2 : SqT K H2 z zeros := k2.tupN ((s1.trans s2).tup hz) c1.notTup
      refine ⟨_, rfl, line_le 2, fun t ht => ?_⟩
      have s3 : Same H2 (upd H2 t (.tup [.str "as", .str "moved"])) := same_new ht
      generalize hH3 : upd H2 t (.tup [.str "as", .str "moved"]) = H3 at *
      refine ⟨t, _, rfl, .inr (.of (by rw [← hH3, upd_same])), rfl, rfl, _, rfl, ?_⟩
      rw [show (inV (.str "flat") [.str "as", .str "moved"]) = false by decide +kernel]
      refine iteF ?_
      refine ⟨_, rfl, rfl, _, rfl, iteD (fun z => absurd z (by decide +kernel)) fun _ => ?_⟩
      refine ⟨_, rfl, rfl, _, rfl, iteD (fun z => absurd z (by decide +kernel)) fun _ => ?_⟩
      refine ⟨_, rfl, rfl, _, rfl, iteN (fun z => absurd z (by decide +kernel)) fun _ => ?_⟩
      refine ⟨_, rfl, _, rfl, _, rfl, D, [.ref z], -1, .ref z, rfl, rfl, .of (s3 _ _ eD), rfl, ?_⟩
      refine ⟨p, d, z, rfl, s3.tup hz2, c2.same s3, fun H4 c4 k4 => ?_⟩
      exact q H4 ⟨_, .inl ⟨rfl, c4⟩⟩ ((((s1.trans s2).kept).trans k2).trans (s3.kept.trans k4))
    · refine ⟨_, rfl, c, _, _, rfl, hc, (show 1 ≤ 1000 by decide), fun D hD => ?_⟩
      have s1 : Same H (upd H D (.lst [.int 0])) := same_new hD
      refine ⟨_, rfl, r, rfl, .inr h12, fun kp H1 s2 hk pt => ?_⟩
      have c1 := cp.same (s1.trans s2)
      obtain ⟨dx, fs, hp, hno⟩ := c1.go (m := "number") (by decide +kernel) rfl
      refine ⟨_, rfl, p, dx, fs, rfl, hp, hno, ?_⟩
      refine ⟨_, rfl, ⟨kp, rfl, pt⟩, _, rfl, kp, kindsS r, "as", 4, rfl, rfl, by rw [← kindsS_map (.inr h12)]; exact hk, by rcases h12 with rfl | rfl <;> rfl, (by rcases h12 with rfl | rfl <;> decide +kernel), ?_⟩
      refine ⟨_, rfl, kp, _, rfl, .inr hk, _, _, rfl, rfl, ?_⟩
      refine ⟨p, d, c1, .inr ⟨((kindsV r).length : Int) - 1, by rcases h12 with rfl | rfl <;> decide, rfl, fun H2 c2 k2 => ?_⟩⟩
      have eD : H2 D = some (.lst [.int 0]) := k2 _ _ (s2 _ _ upd_same) (c1.offL (s2 _ _ upd_same))
      refine ⟨_, rfl, line_le 2, fun t ht => ?_⟩
      have s3 : Same H2 (upd H2 t (.tup [.str "as", .str "moved"])) := same_new ht
      generalize hH3 : upd H2 t (.tup [.str "as", .str "moved"]) = H3 at *
      refine ⟨t, _, rfl, .inr (.of (by rw [← hH3, upd_same])), rfl, rfl, _, rfl, ?_⟩
      rw [show (inV (.str "as") [.str "as", .str "moved"]) = true by decide +kernel]
      refine iteT ?_
      have K3 : Kept [p, d] H H3 := (((s1.trans s2).kept).trans k2).trans s3.kept
      have rest : ∀ (σ : L2.St) H4, WFin (ga K "Writer") H4 p d r → Kept [p, d] H H4 → Q .non H4 := fun _ H4 f k => q H4 f k
      refine ⟨_, rfl, rfl, _, rfl, iteD (fun e2 => ?_) fun e2 => ?_⟩
      · obtain ⟨dx, fs, hp, hno⟩ := (c2.same s3).go (m := "bit") (by decide +kernel) rfl
        refine ⟨_, rfl, p, dx, fs, rfl, hp, hno, _, rfl, D, _, 0, .int 0, rfl, rfl, .of (s3 _ _ eD), rfl, ?_⟩
        refine ⟨p, d, _, _, _, "which", 0, rfl, c2.same s3, nm_which, by decide, by decide, by decide, by decide, by decide, by decide, fun H4 c4 k4 => ?_⟩
        refine ⟨_, rfl, rfl, _, rfl, iteD (fun z => absurd z (by decide +kernel)) fun _ => ?_⟩
        refine ⟨_, rfl, rfl, _, rfl, iteD (fun z => absurd z (by decide +kernel)) fun _ => ?_⟩
        refine ⟨_, rfl, rfl, _, rfl, iteN (fun _ => ?_) fun z => absurd rfl z⟩
        exact q H4 ⟨_, .inr ⟨h12, 134217728, .inr rfl, c4⟩⟩ (K3.trans k4)
      · refine ⟨_, rfl, rfl, _, rfl, iteD (fun z => absurd z (by decide +kernel)) fun _ => ?_⟩
        refine ⟨_, rfl, rfl, _, rfl, iteD (fun z => absurd z (by decide +kernel)) fun _ => ?_⟩
        refine ⟨_, rfl, rfl, _, rfl, iteN (fun _ => ?_) fun z => absurd rfl z⟩
        exact q H3 ⟨_, .inr ⟨h12, 268435456, .inl rfl, c2.same s3⟩⟩ K3
end
end K36
namespace K36
open L2 PySem
open PySem.Spec PyProof.Rows
section
variable {P : Program} {w : World} {K : PySem.W.Frag} {mg : Str → Option Value} {base : Heap}
def spRRest (K : PySem.W.Frag) (C : Addr) : Sp := fun vs H Q _ => ∃ p d t, vs = [.ref p] ∧ CoAt C H p d 0 2147483648 [Sum.inr (nm 0)] (rds t 0) ∧ ∀ a H', SqT K H' a zeros → Kept [p, d] H H' → Q (.ref a) H'
theorem ok_read_rest (T : Txt w K mg) : FnAt P w K mg base 4 "read_rest" ["reader"] (spRRest K (ga K "Reader")) := by
  have g_bit : MtAt P w K mg base 3 _ _ _ (spRBit (ga K "Reader")) := ok_R_bit T
  refine FnAt.of T.f_read_rest sc_read_rest (fun _ _ _ _ _ _ us hl => match us, hl with | [_], _ => rfl) (fun vs H Q E h => ?_) (fun cdv A outer s H vs Q E hr h => ?_)
  · obtain ⟨p, d, t, rfl, _⟩ := h
    rfl
  · obtain ⟨p, d, t, rfl, cp, q⟩ := h
    refine ⟨_, (pss_cons (ps_set (i := 1) sc_read_rest.nd rfl (Or.inl rfl) (pe_op op_rep (pe_lst (pa_cons pe_int pa_nil)) pe_int))
      (pss_cons (ps_if (pt_cmpR op_eq (pe_mcal g_bit hr (by decide) (pv 0) (pa_cons pe_str pa_nil)) pe_int (nomark _)) (pss_one ps_never) pss_nil)
      (pss_one (ps_ret (pe_callTy call_tuple_of (by rfl) T.z_tuple bb_tuple (pa_cons (pv 1) pa_nil)))))), ?_⟩
    refine ⟨line_le 1, fun l0 hl0 => ?_⟩
    have s1 : Same H (upd H l0 (.lst [.int 0])) := same_new hl0
    refine ⟨l0, 16, [.int 0], rfl, rfl, upd_same, by decide, by decide, line_le 16, fun l hl => ?_⟩
    have s2 := s1.new (o := .lst (List.replicate (Int.toNat 16) [V.int 0]).flatten) hl
    have el : (upd (upd H l0 (.lst [.int 0])) l (.lst (List.replicate (Int.toNat 16) [V.int 0]).flatten)) l = some (.lst zeros) := by
      rw [upd_same]
      rfl
    generalize (upd (upd H l0 (.lst [.int 0])) l (.lst (List.replicate (Int.toNat 16) [V.int 0]).flatten)) = H1 at s2 el
    obtain ⟨dx, fs, hp, hno⟩ := (cp.same s2).goR (m := "bit") (by decide +kernel) (by decide +kernel) (by decide +kernel)
    refine ⟨_, rfl, p, dx, fs, rfl, hp, hno, p, d, _, _, _, _, _, "rest", rfl, cp.same s2, nm0_rest, by decide, by decide, by decide, by decide, fun H2 c2 k2 => ?_⟩
    refine ⟨rfl, _, rfl, iteD (fun z => absurd (V.int.inj z) (by decide)) fun _ => ?_⟩
    have el2 : H2 l = some (.lst zeros) := k2 _ _ el ((cp.same s2).offL el)
    exact ⟨_, rfl, l, _, rfl, .inl ⟨.of el2, fun t ht => q t _ (.of upd_same) ((s2.kept.trans k2).trans (kept_new ht))⟩⟩
def spRChoice (K : PySem.W.Frag) (C : Addr) : Sp := fun vs H Q _ => ∃ p d t c g r, vs = [.ref p, g, .int r] ∧ CoAt C H p d 0 4294967296 [] (rds t c) ∧ ((r = 0 ∧ c = 0) ∨ ((r = 1 ∨ r = 2) ∧ c = 3489660928)) ∧ ∀ q' H', ChoiceAt K H' r q' → Kept [p, d] H H' → Q (.ref q') H'
theorem ok_read_choice (T : Txt w K mg) : FnAt P w K mg base 5 "read_choice" ["reader", "guess", "reads"] (spRChoice K (ga K "Reader")) := by
  have g_kinds_for : FnAt P w K mg base 1 _ _ (spKinds K) := ok_kinds_for T
  have g_read_rest : FnAt P w K mg base 4 _ _ (spRRest K (ga K "Reader")) := ok_read_rest T
  have g_bit : MtAt P w K mg base 3 _ _ _ (spRBit (ga K "Reader")) := ok_R_bit T
  have g_number : MtAt P w K mg base 4 _ _ _ (spRNum (ga K "Reader")) := ok_R_number T
  refine FnAt.of T.f_read_choice sc_read_choice (fun _ _ _ _ _ _ us hl => match us, hl with | [_, _, _], _ => rfl) (fun vs H Q E h => ?_) (fun cdv A outer s H vs Q E hr h => ?_)
  · obtain ⟨p, d, t, c, g, r, rfl, _⟩ := h
    rfl
  · obtain ⟨p, d, t, c, g, r, rfl, cp, hrc, q⟩ := h
    refine ⟨_, (pss_cons (ps_set (i := 3) sc_read_choice.nd rfl (Or.inl rfl) (pe_cal g_kinds_for hr (by decide) (pa_cons (pv 2) pa_nil)))
      (pss_cons (ps_set (i := 4) sc_read_choice.nd rfl (Or.inl rfl) (pe_ix (ixK_tup K) (pv 3) (pe_mcal g_number hr (by decide) (pv 0) (pa_cons pe_str (pa_cons (pe_op op_sub (pe_callB (callK_len K) (by rfl) T.z_len PySem.boot_len (pa_cons (pv 3) pa_nil)) pe_int) pa_nil))) (fun _ _ => rfl)))
      (pss_cons (ps_set (i := 5) sc_read_choice.nd rfl (Or.inl rfl) (pe_ifExp (PW.pt (pw_and (pt_cmpR (opK_in K) (pv 4) (pe_tup (pa_cons pe_str (pa_cons pe_str pa_nil))) (by rfl)) (pw_and1 (pt_cmpR op_eq (pv 2) pe_int (nomark _))))) (pe_mcal g_bit hr (by decide) (pv 0) (pa_cons pe_str pa_nil)) pe_int))
      (pss_cons (ps_if (pt_cmpR op_eq (pv 4) pe_str (nomark _)) (pss_one (ps_ret (pe_tup (pa_cons (pv 4) (pa_cons (pv 5) pa_nil))))) pss_nil)
      (pss_cons (ps_if (pt_cmpR op_eq (pv 4) pe_str (nomark _)) (pss_cons ps_never
      (pss_one ps_never)) pss_nil)
      (pss_cons (ps_if (pt_cmpR op_eq (pv 4) pe_str (nomark _)) (pss_cons ps_never
      (pss_cons ps_never
      (pss_one ps_never))) pss_nil)
      (pss_one (ps_ret (pe_tup (pa_cons (pv 4) (pa_cons (pe_cal g_read_rest hr (by decide) (pa_cons (pv 0) pa_nil)) pa_nil))))))))))), ?_⟩
    rcases hrc with ⟨rfl, rfl⟩ | ⟨h12, rfl⟩
    · refine ⟨_, rfl, 0, rfl, .inl rfl, fun kp H1 s1 hk => ?_⟩
      have c1 := cp.same s1
      obtain ⟨dx, fs, hp, hno⟩ := c1.goR (m := "number") (by decide +kernel) (by decide +kernel) (by decide +kernel)
      refine ⟨_, rfl, _, rfl, p, dx, fs, rfl, hp, hno, _, rfl, kp, _, rfl, .inr hk, _, _, rfl, rfl, ?_⟩
      refine ⟨p, d, t, 0, c1, .inl ⟨rfl, rfl, fun H2 c2 k2 => ?_⟩⟩
      have hk2 := k2.tupN hk c1.notTup
      refine ⟨kp, _, 0, .str "flat", rfl, rfl, hk2, rfl, ?_⟩
      refine ⟨_, rfl, line_le 2, fun u hu => ?_⟩
      have s3 : Same H2 (upd H2 u (.tup [.str "as", .str "moved"])) := same_new hu
      refine ⟨u, _, rfl, .inr (.of upd_same), rfl, rfl, _, rfl, ?_⟩
      rw [show (inV (.str "flat") [.str "as", .str "moved"]) = false by decide +kernel]
      refine iteF ?_
      generalize (upd H2 u (.tup [.str "as", .str "moved"])) = H3 at s3
      refine ⟨_, rfl, rfl, _, rfl, iteD (fun z => absurd z (by decide +kernel)) fun _ => ?_⟩
      refine ⟨_, rfl, rfl, _, rfl, iteD (fun z => absurd z (by decide +kernel)) fun _ => ?_⟩
      refine ⟨_, rfl, rfl, _, rfl, iteD (fun z => absurd z (by decide +kernel)) fun _ => ?_⟩
      refine ⟨_, rfl, _, rfl, p, d, t, rfl, c2.same s3, fun a H4 ha k4 => ⟨line_le 2, fun y hy => ?_⟩⟩
      exact q y _ (.inl ⟨rfl, a, .of upd_same, (same_new hy).tup ha⟩) ((((s1.kept.trans k2).trans s3.kept).trans k4).trans (kept_new hy))
    · refine ⟨_, rfl, r, rfl, .inr h12, fun kp H1 s1 hk => ?_⟩
      have c1 := cp.same s1
      obtain ⟨dx, fs, hp, hno⟩ := c1.goR (m := "number") (by decide +kernel) (by decide +kernel) (by decide +kernel)
      refine ⟨_, rfl, _, rfl, p, dx, fs, rfl, hp, hno, _, rfl, kp, _, rfl, .inr hk, _, _, rfl, rfl, ?_⟩
      refine ⟨p, d, t, _, c1, .inr ⟨rfl, ((kindsV r).length : Int) - 1, by rcases h12 with rfl | rfl <;> decide, rfl, fun H2 c2 k2 => ?_⟩⟩
      have hk2 := k2.tupN hk c1.notTup
      refine ⟨kp, _, 4, .str "as", rfl, rfl, hk2, by rcases h12 with rfl | rfl <;> rfl, ?_⟩
      refine ⟨_, rfl, line_le 2, fun u hu => ?_⟩
      have s3 : Same H2 (upd H2 u (.tup [.str "as", .str "moved"])) := same_new hu
      refine ⟨u, _, rfl, .inr (.of upd_same), rfl, rfl, _, rfl, ?_⟩
      rw [show (inV (.str "as") [.str "as", .str "moved"]) = true by decide +kernel]
      refine iteT ?_
      generalize (upd H2 u (.tup [.str "as", .str "moved"])) = H3 at s3
      have c3 := c2.same s3
      refine ⟨_, rfl, rfl, _, rfl, iteD (fun e2 => ?_) fun e2 => ?_⟩
      · obtain ⟨dx, fs, hp, hno⟩ := c3.goR (m := "bit") (by decide +kernel) (by decide +kernel) (by decide +kernel)
        refine ⟨_, rfl, p, dx, fs, rfl, hp, hno, p, d, _, _, _, _, _, "which", rfl, c3, nm_which, by decide, by decide, by decide, by decide, fun H4 c4 k4 => ?_⟩
        refine ⟨_, rfl, rfl, _, rfl, iteD (fun _ => ?_) fun z => absurd rfl z⟩
        refine ⟨_, rfl, _, rfl, line_le 2, fun y hy => ?_⟩
        exact q y _ (.inr ⟨h12, .of upd_same⟩) ((((s1.kept.trans k2).trans s3.kept).trans k4).trans (kept_new hy))
      · refine ⟨_, rfl, rfl, _, rfl, iteD (fun _ => ?_) fun z => absurd rfl z⟩
        refine ⟨_, rfl, _, rfl, line_le 2, fun y hy => ?_⟩
        exact q y _ (.inr ⟨h12, .of upd_same⟩) (((s1.kept.trans k2).trans s3.kept).trans (kept_new hy))
def spSize : Sp := fun vs H Q _ => vs = [.int 4, .int 4] ∧ Q .non H
theorem ok_need_size (T : Txt w K mg) : FnAt P w K mg base 3 "need_size" ["wide", "tall"] spSize := by
  have g_is_side : FnAt P w K mg base 2 _ _ spSide := ok_is_side T
  refine FnAt.of T.f_need_size sc_need_size (fun _ _ _ _ _ _ us hl => match us, hl with | [_, _], _ => rfl) (fun vs H Q E h => ?_) (fun cdv A outer s H vs Q E hr h => ?_)
  · obtain ⟨rfl, _⟩ := h
    rfl
  · obtain ⟨rfl, q⟩ := h
    refine ⟨_, (pss_one (ps_if (PW.pt (pw_or (pt_not (pt_val (pe_cal g_is_side hr (by decide) (pa_cons (pv 0) pa_nil)))) (pw_or1 (pt_not (pt_val (pe_cal g_is_side hr (by decide) (pa_cons (pv 1) pa_nil))))))) (pss_one ps_never) pss_nil)), ?_⟩
    exact ⟨_, rfl, rfl, _, rfl, iteF ⟨_, rfl, rfl, _, rfl, iteF q⟩⟩
end
end K36
namespace K36
open L2 PySem
open PySem.Spec PyProof.Rows
theorem CoAt.upd {C : Addr} {H : Hp} {p d l : Addr} {low br : Int} {ks : List Key} {rest : List (Str × V)} {o : HO} (c : CoAt C H p d low br ks rest) (n : l ∉ [p, d]) : CoAt C (upd H l o) p d low br ks rest := by
  obtain ⟨dx, h1⟩ := c.ob
  obtain ⟨kvs, h2, h3⟩ := c.dc
  simp only [List.mem_cons, List.not_mem_nil, or_false, not_or] at n
  exact ⟨⟨dx, by rw [upd_ne (Ne.symm n.1)]; exact h1⟩, ⟨kvs, by rw [upd_ne (Ne.symm n.2)]; exact h2, h3⟩, c.len⟩
theorem WFin.upd {C : Addr} {H : Hp} {p d l : Addr} {r : Int} {xs : List V} {o : HO} (h : WFin C H p d r) (e : H l = some (.lst xs)) : WFin C (upd H l o) p d r := by
  obtain ⟨ks, ⟨e1, c⟩ | ⟨e1, br, hb, c⟩⟩ := h
  · exact ⟨ks, .inl ⟨e1, c.upd (c.offL e)⟩⟩
  · exact ⟨ks, .inr ⟨e1, br, hb, c.upd (c.offL e)⟩⟩
/-- the letters of the one choice -/
def lettersL (r : Int) : List V := if r = 0 then [] else [.int 208]
theorem Kept.same2 {H0 H H' : Hp} {p d : Addr} (s : Same H0 H) (k : Kept [p, d] H H') (n1 : H0 p = none) (n2 : H0 d = none) : Same H0 H' := Kept.same s k fun x hx => by
  rcases List.mem_cons.mp hx with rfl | hx
  · exact n1
  · rw [List.mem_singleton.mp hx]
    exact n2
theorem none_of {H : Hp} {p q : Addr} {o : HO} (h : upd H p o q = none) : H q = none ∧ q ≠ p := by
  have n : q ≠ p := fun z => by
    rw [z, upd_same] at h
    cases h
  rw [upd_ne n] at h
  exact ⟨h, n⟩
section
variable {P : Program} {w : World} {K : PySem.W.Frag} {mg : Str → Option Value} {base : Heap}
def spLettersOf (K : PySem.W.Frag) : Sp := fun vs H Q _ => ∃ (a c : Addr) (r : Int), vs = [.ref a, .int 4, .int 4, .int r] ∧ SqT K H a [.ref c] ∧ ChoiceAt K H r c ∧ ∀ t H', Same H H' → H' t = some (.tup (lettersL r)) → Q (.ref t) H'
theorem ChoiceAt.r012 {H : Hp} {r : Int} {c : Addr} (h : ChoiceAt K H r c) : r = 0 ∨ r = 1 ∨ r = 2 := by
  rcases h with ⟨e, _⟩ | ⟨e, _⟩
  · exact .inl e
  · exact .inr e
theorem ok_letters_of (T : Txt w K mg) : FnAt P w K mg base 6 "letters_of" ["choices", "wide", "tall", "reads"] (spLettersOf K) := by
  have g_need_size : FnAt P w K mg base 3 _ _ spSize := ok_need_size T
  have g_is_whole : FnAt P w K mg base 1 _ _ spYes := ok_whole T
  have g_are_choices : FnAt P w K mg base 5 _ _ (spChoices K) := ok_are_choices T
  have g_Writer : MkAt P w K mg base 1 _ _ (spCoInit (ga K "Writer")) := ok_Writer_init T
  have g_guessed_vector : FnAt P w K mg base 2 _ _ (spGuess K) := ok_guessed_vector T
  have g_write_choice : FnAt P w K mg base 5 _ _ (spWChoice K (ga K "Writer")) := ok_write_choice T
  have g_first_vector : FnAt P w K mg base 1 _ _ (spFirst K) := ok_first_vector T
  have g_letters : MtAt P w K mg base 2 _ _ _ (spLetters K (ga K "Writer")) := ok_W_letters T
  refine FnAt.of T.f_letters_of sc_letters_of (fun _ _ _ _ _ _ us hl => match us, hl with | [_, _, _, _], _ => rfl) (fun vs H Q E h => ?_) (fun cdv A outer s H vs Q E hr h => ?_)
  · obtain ⟨a, c, r, rfl, _⟩ := h
    rfl
  · obtain ⟨a, c, r, rfl, ha, hc, q⟩ := h
    refine ⟨_, (pss_cons (ps_expr (pe_cal g_need_size hr (by decide) (pa_cons (pv 1) (pa_cons (pv 2) pa_nil))))
      (pss_cons (ps_if (PW.pt (pw_or (pt_not (pt_val (pe_cal g_is_whole hr (by decide) (pa_cons (pv 3) (pa_cons pe_int (pa_cons (pe_gint T.c_MOST_READS) pa_nil)))))) (pw_or1 (pt_not (pt_val (pe_cal g_are_choices hr (by decide) (pa_cons (pv 0) (pa_cons (pe_op op_fdiv (pe_op op_mul (pv 1) (pv 2)) pe_int) (pa_cons (pv 3) pa_nil))))))))) (pss_one ps_never) pss_nil)
      (pss_cons (ps_par (i := 4) (j := 5) rfl sc_letters_of.nd rfl rfl (by decide) rfl rfl (pa_cons (pe_mkA0 g_Writer hr (by decide)) (pa_cons (pe_lst pa_nil) pa_nil)) (by rfl))
      (pss_cons (ps_for PassesOwn.never rfl (pi_enumT (by rfl) T.z_enumerate (pa_cons (pv 0) pa_nil)) (pg_tup2 K (pg_name (i := 6) sc_letters_of.nd rfl (Or.inl rfl)) (pg_name (i := 7) sc_letters_of.nd rfl (Or.inl rfl))) (pss_cons (ps_set (i := 8) sc_letters_of.nd rfl (Or.inl rfl) (pe_cal g_guessed_vector hr (by decide) (pa_cons (pv 5) (pa_cons (pv 6) (pa_cons (pe_op op_fdiv (pv 1) pe_int) pa_nil)))))
      (pss_cons (ps_expr (pe_cal g_write_choice hr (by decide) (pa_cons (pv 4) (pa_cons (pv 7) (pa_cons (pv 8) (pa_cons (pv 3) pa_nil))))))
      (pss_one (ps_expr (pe_bm PySem.F.plainAttrs_list PySem.F.slot_list_append PySem.F.type_list_append mt_append (pv 5) (pa_cons (pe_cal g_first_vector hr (by decide) (pa_cons (pv 7) (pa_cons (pv 8) pa_nil))) pa_nil)))))))
      (pss_one (ps_ret (pe_mcal0 g_letters hr (by decide) (pv 4)))))))), ?_⟩
    have hr012 := hc.r012
    refine ⟨_, rfl, _, rfl, rfl, ?_⟩
    refine ⟨_, rfl, _, _, _, rfl, by omega, by omega, _, rfl, iteF ?_⟩
    refine ⟨_, rfl, _, rfl, _, rfl, _, _, rfl, rfl, .inl ⟨by decide, by decide⟩, _, _, rfl, rfl, ⟨by decide, by decide⟩, _, rfl, a, c, r, rfl, ha, hc, fun H1 s1 => ⟨_, rfl, iteF ?_⟩⟩
    intro p dx np ndx hne
    refine ⟨p, dx, rfl, upd_same, fun d H2 nd c2 k2 => ⟨rfl, ?_⟩⟩
    have nd0 : H1 d = none := (none_of (none_of nd).1).1
    have s2 : Same H1 H2 := Kept.same ((same_new ndx).trans (same_new (by rw [upd_ne hne.symm]; exact np))) k2 (fun x hx => by rw [List.mem_singleton.mp hx]; exact np)
    refine ⟨line_le 0, fun v hv => ?_⟩
    have s3 : Same H2 (upd H2 v (.lst [])) := same_new hv
    refine ⟨_, _, rfl, ?_⟩
    have h0 : ∀ {x : Addr}, H1 x = none → H x = none := fun {x} e => by
      cases e2 : H x with
      | none => rfl
      | some o => rw [s1 _ _ e2] at e; cases e
    have nv : H v = none := h0 (by
      cases e2 : H1 v with
      | none => rfl
      | some o => rw [s2 _ _ e2] at hv; cases hv)
    have S3 : Same H (upd H2 v (.lst [])) := (s1.trans s2).trans s3
    refine ⟨_, rfl, a, _, rfl, S3.tup ha, ?_⟩
    refine for_it walk_enumT (fun i σ H' => ∃ x y z, σ = [some (.ref a), some (.int 4), some (.int 4), some (.int r), some (.ref p), some (.ref v), x, y, z] ∧ Same H H' ∧ SqT K H' a [.ref c] ∧ ((i = 0 ∧ CoAt (ga K "Writer") H' p d 0 4294967296 [] [] ∧ H' v = some (.lst [])) ∨ (i = 1 ∧ WFin (ga K "Writer") H' p d r)))
      ⟨_, _, _, rfl, S3, S3.tup ha, .inl ⟨rfl, c2.same s3, upd_same⟩⟩ (fun i σ H' _ h => by obtain ⟨_, _, _, _, _, e, _⟩ := h; exact e) ?_ ?_
    · rintro i x σ H0 H' hi ⟨x1, x2, x3, rfl, S4, a4, hst⟩ ⟨T1, y1, y2, rfl, nT, rfl, hy1, hy2⟩
      have hi' : i < 1 := hi
      obtain rfl : V.int (i : Nat) = y1 := Option.some.inj hy1
      obtain ⟨rfl, rfl⟩ := one_at hy2
      rcases hst with ⟨_, c4, v4⟩ | ⟨z, _⟩
      · have s5 : Same H0 (upd H0 T1 (.tup [.int ((0 : Nat) : Int), .ref c])) := same_new nT
        refine ⟨T1, _, rfl, .of upd_same, rfl, _, _, rfl, _, _, rfl, rfl, ?_⟩
        generalize (upd H0 T1 (.tup [.int ((0 : Nat) : Int), .ref c])) = H5 at s5
        refine ⟨_, rfl, _, rfl, _, rfl, _, _, rfl, rfl, ⟨by decide, by decide⟩, v, rfl, .of (s5 _ _ v4), fun g H6 s6 => ?_⟩
        have S6 : Same H H6 := (S4.trans s5).trans s6
        have v6 : H6 v = some (.lst []) := s6 _ _ (s5 _ _ v4)
        have c6 := c4.same (s5.trans s6)
        refine ⟨_, rfl, _, rfl, _, rfl, _, rfl, p, d, c, g, r, rfl, hc.same S6, c6, fun H7 f7 k7 => ?_⟩
        have S7 : Same H H7 := Kept.same2 S6 k7 (h0 np) (h0 nd0)
        have v7 : H7 v = some (.lst []) := k7 _ _ v6 (c6.offL v6)
        refine ⟨_, rfl, .inl ⟨rfl, _, .of v7⟩, _, rfl, _, rfl, c, g, r, rfl, hc.same S7, fun y H8 s8 => ?_⟩
        refine ⟨v, _, _, rfl, rfl, s8 _ _ v7, small1000 (by decide), ?_⟩
        have S9 : Same H (upd H8 v (.lst ([] ++ [y]))) := fun b o e => by
          rw [upd_ne (ne_of_none e nv)]
          exact s8 _ _ (S7 _ _ e)
        exact ⟨_, _, _, rfl, S9, S9.tup ha, .inr ⟨rfl, (f7.same s8).upd (s8 _ _ v7)⟩⟩
      · exact absurd z (by omega)
    · rintro σ H' ⟨x1, x2, x3, rfl, S4, a4, hst⟩
      rcases hst with ⟨z, _⟩ | ⟨_, ks, ⟨e, c4⟩ | ⟨e, br, hb, c4⟩⟩
      · exact absurd z (show ¬ 1 = 0 by decide)
      · obtain ⟨dx, fs, hp, hno⟩ := c4.go (m := "letters") (by decide +kernel) rfl
        refine ⟨_, rfl, p, dx, fs, rfl, hp, hno, p, d, ks, rfl, .inl ⟨c4, fun t H5 s5 ht => ?_⟩⟩
        exact q t H5 (S4.trans s5) (by rw [ht, e]; rfl)
      · obtain ⟨dx, fs, hp, hno⟩ := c4.go (m := "letters") (by decide +kernel) rfl
        refine ⟨_, rfl, p, dx, fs, rfl, hp, hno, p, d, ks, rfl, .inr ⟨br, hb, c4, fun t H5 s5 ht => ?_⟩⟩
        exact q t H5 (S4.trans s5) (by rw [ht]; rcases e with rfl | rfl <;> rfl)
end
end K36
namespace K36
open L2 PySem
open PySem.Spec PyProof.Rows
def codeB (r : Int) : Int := if r = 0 then 0 else 208
theorem letsOf {r : Int} : LetsOf (lettersL r) (codeB r) := by
  unfold LetsOf lettersL codeB
  by_cases h : r = 0
  · rw [if_pos h, if_pos h]
    exact .inl ⟨rfl, rfl⟩
  · rw [if_neg h, if_neg h]
    exact .inr rfl
section
variable {P : Program} {w : World} {K : PySem.W.Frag} {mg : Str → Option Value} {base : Heap}
def spReadChoices (K : PySem.W.Frag) : Sp := fun vs H Q _ => ∃ (l : Addr) (r : Int), vs = [.ref l, .int 4, .int 4, .int r] ∧ (r = 0 ∨ r = 1 ∨ r = 2) ∧ SqT K H l (lettersL r) ∧ ∀ p c H', Same H H' → H' p = some (.tup [.ref c]) → ChoiceAt K H' r c → Q (.ref p) H'
theorem ok_read_choices (T : Txt w K mg) : FnAt P w K mg base 6 "read_choices" ["letters", "wide", "tall", "reads"] (spReadChoices K) := by
  have g_Reader : MkAt P w K mg base 2 _ _ (spRdInit K (ga K "Reader")) := ok_Reader_init T
  have g_guessed_vector : FnAt P w K mg base 2 _ _ (spGuess K) := ok_guessed_vector T
  have g_read_choice : FnAt P w K mg base 5 _ _ (spRChoice K (ga K "Reader")) := ok_read_choice T
  have g_first_vector : FnAt P w K mg base 1 _ _ (spFirst K) := ok_first_vector T
  refine FnAt.of T.f_read_choices sc_read_choices (fun _ _ _ _ _ _ us hl => match us, hl with | [_, _, _, _], _ => rfl) (fun vs H Q E h => ?_) (fun cdv A outer s H vs Q E hr h => ?_)
  · obtain ⟨l, r, rfl, _⟩ := h
    rfl
  · obtain ⟨l, r, rfl, hr012, hl, q⟩ := h
    refine ⟨_, (pss_cons (ps_par3 (i := 5) (j := 6) (l := 7) rfl sc_read_choices.nd rfl rfl rfl (by decide) (by decide) (by decide) rfl rfl rfl (pa_cons (pe_mkA g_Reader hr (by decide) (pa_cons (pv 0) pa_nil)) (pa_cons (pe_lst pa_nil) (pa_cons (pe_lst pa_nil) pa_nil))) (by rfl))
      (pss_cons (ps_for PassesOwn.never rfl (pi_range1 (by rfl) T.z_range (pa_cons (pe_op op_fdiv (pe_op op_mul (pv 1) (pv 2)) pe_int) pa_nil)) (pg_name (i := 4) sc_read_choices.nd rfl (Or.inl rfl)) (pss_cons (ps_set (i := 8) sc_read_choices.nd rfl (Or.inl rfl) (pe_cal g_guessed_vector hr (by decide) (pa_cons (pv 6) (pa_cons (pv 4) (pa_cons (pe_op op_fdiv (pv 1) pe_int) pa_nil)))))
      (pss_cons (ps_expr (pe_bm PySem.F.plainAttrs_list PySem.F.slot_list_append PySem.F.type_list_append mt_append (pv 7) (pa_cons (pe_cal g_read_choice hr (by decide) (pa_cons (pv 5) (pa_cons (pv 8) (pa_cons (pv 3) pa_nil)))) pa_nil)))
      (pss_one (ps_expr (pe_bm PySem.F.plainAttrs_list PySem.F.slot_list_append PySem.F.type_list_append mt_append (pv 6) (pa_cons (pe_cal g_first_vector hr (by decide) (pa_cons (pe_ix (ixK_list K) (pv 7) (pe_un un_neg pe_int) (fun _ _ => rfl)) (pa_cons (pv 8) pa_nil))) pa_nil)))))))
      (pss_one (ps_ret (pe_callTy call_tuple_of (by rfl) T.z_tuple bb_tuple (pa_cons (pv 7) pa_nil)))))), ?_⟩
    refine ⟨_, rfl, ?_⟩
    intro p dx np ndx hne
    have hn : upd H dx (.own p) p = none := by rw [upd_ne hne.symm]; exact np
    have s1 : Same H (upd (upd H dx (.own p)) p (.ins (ga K "Reader") dx [])) := (same_new ndx).trans (same_new hn)
    refine ⟨p, dx, l, lettersL r, codeB r, rfl, upd_same, s1.tup hl, letsOf, fun d t H1 nd ht c1 k1 => ⟨rfl, ?_⟩⟩
    have nd0 : H d = none := (none_of (none_of nd).1).1
    have S1 : Same H H1 := Kept.same s1 (k1.mono (qs := [p]) (fun _ h => h)) (fun x hx => by rw [List.mem_singleton.mp hx]; exact np)
    have hcode : (r = 0 ∧ codeB r * 16777216 = 0) ∨ ((r = 1 ∨ r = 2) ∧ codeB r * 16777216 = 3489660928) := by
      rcases hr012 with rfl | rfl | rfl
      · exact .inl ⟨rfl, by decide⟩
      · exact .inr ⟨.inl rfl, by decide⟩
      · exact .inr ⟨.inr rfl, by decide⟩
    have h0 : ∀ {H' : Hp} {x : Addr}, Same H H' → H' x = none → H x = none := fun {H' x} s e => by
      cases e2 : H x with
      | none => rfl
      | some o => rw [s _ _ e2] at e; cases e
    refine ⟨line_le 0, fun v hv => ⟨line_le 0, fun f hf => ?_⟩⟩
    have s2 : Same H1 (upd H1 v (.lst [])) := same_new hv
    have s3 : Same H1 (upd (upd H1 v (.lst [])) f (.lst [])) := s2.new hf
    have nv : H v = none := h0 S1 hv
    have nf : H f = none := h0 (S1.trans s2) hf
    have hvf : v ≠ f := ne_of_none upd_same hf
    have e4v : (upd (upd H1 v (.lst [])) f (.lst [])) v = some (.lst []) := (same_new hf) _ _ upd_same
    have e4f : (upd (upd H1 v (.lst [])) f (.lst [])) f = some (.lst []) := upd_same
    refine ⟨_, _, _, rfl, ?_⟩
    generalize (upd (upd H1 v (.lst [])) f (.lst [])) = H4 at s3 e4v e4f
    refine ⟨_, rfl, _, rfl, _, _, rfl, rfl, .inl ⟨by decide, by decide⟩, _, _, rfl, rfl, ⟨by decide, by decide⟩, 1, rfl, by decide, by decide, ?_⟩
    refine for_it walk_range (fun i σ H' => ∃ x y, σ = [some (.ref l), some (.int 4), some (.int 4), some (.int r), x, some (.ref p), some (.ref v), some (.ref f), y] ∧ Same H H' ∧
        ((i = 0 ∧ CoAt (ga K "Reader") H' p d 0 4294967296 [] (rds t (codeB r * 16777216)) ∧ H' v = some (.lst []) ∧ H' f = some (.lst [])) ∨ (i = 1 ∧ ∃ c, H' f = some (.lst [.ref c]) ∧ ChoiceAt K H' r c)))
      ⟨_, _, rfl, S1.trans s3, .inl ⟨rfl, c1.same s3, e4v, e4f⟩⟩ (fun _ _ _ _ _ => trivial) ?_ ?_
    · rintro i x σ H0 H' hi ⟨x1, x2, rfl, S5, hst⟩ ⟨rfl, rfl⟩
      have hi' : i < 1 := hi
      rcases hst with ⟨rfl, c5, v5, f5⟩ | ⟨z, _⟩
      · refine ⟨_, rfl, _, rfl, _, rfl, _, _, rfl, rfl, ⟨by decide, by decide⟩, v, by rfl, .of v5, fun g H6 s6 => ?_⟩
        have v6 := s6 _ _ v5
        have f6 := s6 _ _ f5
        have c6 := c5.same s6
        refine ⟨_, rfl, .inl ⟨rfl, _, .of f6⟩, _, rfl, _, rfl, _, rfl, p, d, t, _, g, r, rfl, c6, hcode, fun c H7 hc7 k7 => ?_⟩
        have S7 : Same H H7 := Kept.same2 (S5.trans s6) k7 np nd0
        have v7 := k7 _ _ v6 (c6.offL v6)
        have f7 := k7 _ _ f6 (c6.offL f6)
        refine ⟨f, _, _, rfl, rfl, f7, small1000 (by decide), ?_⟩
        have e8 : (upd H7 f (.lst ([] ++ [V.ref c]))) f = some (.lst [.ref c]) := upd_same
        have v8 : (upd H7 f (.lst ([] ++ [V.ref c]))) v = some (.lst []) := by rw [upd_ne hvf]; exact v7
        have c8 : ChoiceAt K (upd H7 f (.lst ([] ++ [V.ref c]))) r c := by
          have k : Kept [f] H7 (upd H7 f (.lst ([] ++ [V.ref c]))) := kept_upd (by simp)
          have n : NotTup [f] H7 := fun x hx => by
            rw [List.mem_singleton.mp hx, f7]
            intro xs
            exact ⟨(fun z => nomatch z), fun o z => nomatch z⟩
          rcases hc7 with ⟨e, z, h1, h2⟩ | ⟨e, h1⟩
          · exact .inl ⟨e, z, k.tupN h1 n, k.tupN h2 n⟩
          · exact .inr ⟨e, k.tupN h1 n⟩
        have S8 : Same H (upd H7 f (.lst ([] ++ [V.ref c]))) := fun b o e => by
          rw [upd_ne (ne_of_none e nf)]
          exact S7 _ _ e
        generalize (upd H7 f (.lst ([] ++ [V.ref c]))) = H8 at e8 v8 c8 S8
        refine ⟨_, rfl, .inl ⟨rfl, _, .of v8⟩, _, rfl, _, rfl, f, [.ref c], -1, .ref c, rfl, rfl, .of e8, rfl, _, rfl, c, g, r, rfl, c8, fun y H9 s9 => ?_⟩
        refine ⟨v, _, _, rfl, rfl, s9 _ _ v8, small1000 (by decide), ?_⟩
        have k9 : Kept [v] H9 (upd H9 v (.lst ([] ++ [y]))) := kept_upd (by simp)
        have n9 : NotTup [v] H9 := fun x hx => by
          rw [List.mem_singleton.mp hx, s9 _ _ v8]
          intro xs
          exact ⟨(fun z => nomatch z), fun o z => nomatch z⟩
        refine ⟨_, _, rfl, fun b o e => ?_, .inr ⟨rfl, c, ?_, ?_⟩⟩
        · rw [upd_ne (ne_of_none e nv)]
          exact s9 _ _ (S8 _ _ e)
        · rw [upd_ne hvf.symm]
          exact s9 _ _ e8
        · rcases c8.same s9 with ⟨e, z, h1, h2⟩ | ⟨e, h1⟩
          · exact .inl ⟨e, z, k9.tupN h1 n9, k9.tupN h2 n9⟩
          · exact .inr ⟨e, k9.tupN h1 n9⟩
      · exact absurd z (by omega)
    · rintro σ H' ⟨x1, x2, rfl, S5, hst⟩
      rcases hst with ⟨z, _⟩ | ⟨_, c, f5, c5⟩
      · exact absurd z (show ¬ 1 = 0 by decide)
      · exact ⟨_, rfl, f, _, rfl, .inl ⟨.of f5, fun y hy => q y c _ (S5.new hy) upd_same (c5.same (same_new hy))⟩⟩
/-- gives something back where the letters are right -/
def spChoicesOf (K : PySem.W.Frag) : Sp := fun vs H Q _ => ∃ (l : Addr) (r : Int), vs = [.ref l, .int 4, .int 4, .int r] ∧ (r = 0 ∨ r = 1 ∨ r = 2) ∧ SqT K H l (lettersL r) ∧ ∀ v H', Same H H' → Q v H'
theorem lettersL_int {r : Int} : ∃ ns : List Int, lettersL r = ns.map V.int ∧ (∀ n ∈ ns, n = 208) ∧ ns.length ≤ 1 ∧ SeqAt.shaped (PyData.tuple (ns.map PyData.int)) = true ∧ PyData.eqv (PyData.tuple (ns.map PyData.int)) (PyData.tuple (ns.map PyData.int)) = true := by
  unfold lettersL
  by_cases h : r = 0
  · rw [if_pos h]
    exact ⟨[], rfl, by simp, by decide, by decide +kernel, by decide +kernel⟩
  · rw [if_neg h]
    exact ⟨[208], rfl, by simp, by decide, by decide +kernel, by decide +kernel⟩
theorem ok_choices_of (T : Txt w K mg) : FnAt P w K mg base 7 "choices_of" ["letters", "wide", "tall", "reads"] (spChoicesOf K) := by
  have g_need_size : FnAt P w K mg base 3 _ _ spSize := ok_need_size T
  have g_is_list : FnAt P w K mg base 1 _ _ (spIsList K) := ok_is_list T
  have g_is_letter : FnAt P w K mg base 2 _ _ spLetter := ok_is_letter T
  have g_read_choices : FnAt P w K mg base 6 _ _ (spReadChoices K) := ok_read_choices T
  have g_letters_of : FnAt P w K mg base 6 _ _ (spLettersOf K) := ok_letters_of T
  refine FnAt.of T.f_choices_of sc_choices_of (fun _ _ _ _ _ _ us hl => match us, hl with | [_, _, _, _], _ => rfl) (fun vs H Q E h => ?_) (fun cdv A outer s H vs Q E hr h => ?_)
  · obtain ⟨l, r, rfl, _⟩ := h
    rfl
  · obtain ⟨l, r, rfl, hr012, hl, q⟩ := h
    obtain ⟨ns, en, hn, hlen, hsh, heq⟩ := lettersL_int (r := r)
    refine ⟨_, (pss_cons (ps_expr (pe_cal g_need_size hr (by decide) (pa_cons (pv 1) (pa_cons (pv 2) pa_nil))))
      (pss_cons (ps_if (PW.pt (pw_or (pt_not (pt_val (pe_cal g_is_list hr (by decide) (pa_cons (pv 0) pa_nil)))) (pw_or1 (pt_not (pt_val (pe_callB (cr_all rfl) (by rfl) T.z_all bb_all (pa_cons (pe_lc (own := [("one", 6)]) rfl sc_choices_of.nd (pi_tup (pv 0)) (blkOk_by (own := [("one", 6)]) (N := N_choices_of) (sc := defScope s_choices_of) (by decide +kernel)) (fun _ _ _ _ _ => (pg_name (i := 6) sc_choices_of.nd rfl (Or.inl rfl))) (fun _ _ _ _ _ => pts_nil) (fun _ _ _ _ _ => (pe_cal g_is_letter hr (by decide) (pa_cons (pv 6) pa_nil)))) pa_nil))))))) (pss_one ps_never) pss_nil)
      (pss_cons (ps_set (i := 4) sc_choices_of.nd rfl (Or.inl rfl) (pe_cal g_read_choices hr (by decide) (pa_cons (pv 0) (pa_cons (pv 1) (pa_cons (pv 2) (pa_cons (pv 3) pa_nil))))))
      (pss_cons (ps_set (i := 5) sc_choices_of.nd rfl (Or.inl rfl) (pe_cal g_letters_of hr (by decide) (pa_cons (pv 4) (pa_cons (pv 1) (pa_cons (pv 2) (pa_cons (pv 3) pa_nil))))))
      (pss_cons (ps_if (pt_cmpR (op_neD hr.units) (pv 5) (pe_callTy call_tuple_of (by rfl) T.z_tuple bb_tuple (pa_cons (pv 0) pa_nil)) (nomark _)) (pss_one ps_never) pss_nil)
      (pss_one (ps_ret (pv 4)))))))), ?_⟩
    refine ⟨_, rfl, _, rfl, rfl, ?_⟩
    refine ⟨_, rfl, l, _, rfl, hl, fun H1 s1 => ⟨_, rfl, iteF ?_⟩⟩
    have hl1 := s1.tup hl
    refine ⟨_, rfl, l, rfl, ⟨_, hl1⟩, fun D hD => ?_⟩
    refine lc_it (walk_tup (xs := lettersL r)) (fun i H' => Same H1 H' ∧ H' D = some (.lst (List.replicate i (.bl true)))) ⟨same_new hD, upd_same⟩ (fun i H' _ h => h.1.tup hl1) ?_ ?_
    · rintro i x H' _ hi ⟨s2, d2⟩ ⟨rfl, hx⟩
      have hx2 := List.mem_of_getElem? hx
      rw [en] at hx2
      obtain ⟨n, hnm, rfl⟩ := List.mem_map.mp hx2
      obtain rfl := hn n hnm
      refine ⟨rfl, t_yes (iteT ?_)⟩
      refine ⟨_, rfl, _, rfl, by decide, by decide, _, d2, ?_, ?_, ?_⟩
      · rw [List.length_replicate]
        refine small1000 ?_
        rw [en, List.length_map] at hi
        omega
      · intro b o e
        rw [upd_ne (ne_of_none e hD)]
        exact s2 b o e
      · rw [upd_same, List.replicate_succ']
    · rintro H2 ⟨s2, d2⟩
      refine ⟨D, List.replicate (lettersL r).length true, rfl, .of (by rw [List.map_replicate]; exact d2), ?_⟩
      rw [show (List.replicate (lettersL r).length true).all id = true by simp]
      refine ⟨_, rfl, iteF ?_⟩
      have S2 := s1.trans s2
      refine ⟨_, rfl, _, rfl, _, rfl, _, rfl, l, r, rfl, hr012, S2.tup hl, fun p c H3 s3 hp hc => ?_⟩
      refine ⟨_, rfl, _, rfl, _, rfl, _, rfl, p, c, r, rfl, .of hp, hc, fun t H4 s4 ht => ?_⟩
      have hl4 := ((S2.trans s3).trans s4).tup hl
      refine ⟨_, rfl, _, rfl, l, _, rfl, .inr ⟨hl4, ?_⟩⟩
      refine ⟨_, _, .tup (.of ht) (by rw [en]; exact dp_ints ns), .tup hl4 (by rw [en]; exact dp_ints ns), hsh, hsh, _, rfl, ?_⟩
      rw [heq]
      refine iteF ⟨_, rfl, q _ _ ((S2.trans s3).trans s4)⟩
end
end K36
namespace K36
open L2 PySem
open PySem.Spec PyProof.Rows
abbrev nV (n : Nat) : V := .int (n : Nat)
def oV : Option Nat → V
  | none => .non
  | some i => nV i
/-- a unit of a web: its tick, what it reads, where it writes -/
structure WU where
  tick : Nat
  slots : List Nat
  writes : Option Nat
/-- what the program's checks want of a unit -/
structure WU.Ok (x : WU) : Prop where
  tick : x.tick ≤ 1000
  few : x.slots.length ≤ 2
  slots : ∀ s ∈ x.slots, s < 4
  writes : ∀ s, x.writes = some s → s < 4
structure UnitAt (K : PySem.W.Frag) (H : Hp) (u : Addr) (x : WU) : Prop where
  ex : ∃ s l, SqT K H u [.str "unit", nV x.tick, .int 1, .ref s, oV x.writes, .ref l] ∧ SqT K H s (x.slots.map nV) ∧ SqT K H l (lettersL (x.slots.length : Nat))
  ok : x.Ok
theorem UnitAt.same {K : PySem.W.Frag} {H H' : Hp} {u : Addr} {x : WU} (h : UnitAt K H u x) (e : Same H H') : UnitAt K H' u x := by
  obtain ⟨s, l, h1, h2, h3⟩ := h.ex
  exact ⟨⟨s, l, e.tup h1, e.tup h2, e.tup h3⟩, h.ok⟩
theorem UnitAt.kept {K : PySem.W.Frag} {H H' : Hp} {ps : List Addr} {u : Addr} {x : WU} (h : UnitAt K H u x) (k : Kept ps H H') (n : NotTup ps H) : UnitAt K H' u x := by
  obtain ⟨s, l, h1, h2, h3⟩ := h.ex
  exact ⟨⟨s, l, k.tupN h1 n, k.tupN h2 n, k.tupN h3 n⟩, h.ok⟩
section
variable {P : Program} {w : World} {K : PySem.W.Frag} {mg : Str → Option Value} {base : Heap}
def spUnit (K : PySem.W.Frag) : Sp := fun vs H Q _ => ∃ u x, vs = [.ref u] ∧ UnitAt K H u x ∧ ∀ H', Same H H' → Q (.bl true) H'
theorem ok_is_unit (T : Txt w K mg) : FnAt P w K mg base 3 "is_unit" ["thing"] (spUnit K) := by
  have g_is_whole : FnAt P w K mg base 1 _ _ spYes := ok_whole T
  have g_is_letter : FnAt P w K mg base 2 _ _ spLetter := ok_is_letter T
  refine FnAt.of T.f_is_unit sc_is_unit (fun _ _ _ _ _ _ us hl => match us, hl with | [_], _ => rfl) (fun vs H Q E h => ?_) (fun cdv A outer s H vs Q E hr h => ?_)
  · obtain ⟨u, x, rfl, _⟩ := h
    rfl
  · obtain ⟨u, x, rfl, hx, q⟩ := h
    refine ⟨_, (pss_cons (ps_if (PW.pt (pw_or (pt_not (pt_val (pe_callB call_isi (by rfl) T.z_isinstance bb_isinstance (pa_cons (pv 0) (pa_cons (pe_bty T.z_tuple bb_tuple) pa_nil))))) (pw_or (pt_cmpR op_ne (pe_callB (callK_len K) (by rfl) T.z_len PySem.boot_len (pa_cons (pv 0) pa_nil)) pe_int (nomark _)) (pw_or (pt_not (pt_val (pe_callB call_isi (by rfl) T.z_isinstance bb_isinstance (pa_cons (pe_ix (ixK_tup K) (pv 0) pe_int (fun _ _ => rfl)) (pa_cons (pe_bty T.z_str bb_str) pa_nil))))) (pw_or1 (pt_cmpR op_ne (pe_ix (ixK_tup K) (pv 0) pe_int (fun _ _ => rfl)) pe_str (nomark _))))))) (pss_one (ps_ret pe_bl)) pss_nil)
      (pss_cons (ps_asg (pv 0) (pg_tup (by rfl) (pgs_cons (pg_name (i := 1) sc_is_unit.nd rfl (Or.inl rfl)) (pgs_cons (pg_name (i := 2) sc_is_unit.nd rfl (Or.inl rfl)) (pgs_cons (pg_name (i := 3) sc_is_unit.nd rfl (Or.inl rfl)) (pgs_cons (pg_name (i := 4) sc_is_unit.nd rfl (Or.inl rfl)) (pgs_cons (pg_name (i := 5) sc_is_unit.nd rfl (Or.inl rfl)) (pgs_cons (pg_name (i := 6) sc_is_unit.nd rfl (Or.inl rfl)) pgs_nil))))))))
      (pss_cons (ps_if (PW.pt (pw_or (pt_not (pt_val (pe_cal g_is_whole hr (by decide) (pa_cons (pv 2) (pa_cons pe_int (pa_cons (pe_gint T.c_MOST_TICK) pa_nil)))))) (pw_or1 (pt_not (pt_val (pe_cal g_is_whole hr (by decide) (pa_cons (pv 3) (pa_cons pe_int (pa_cons (pe_gint T.c_MOST_STEP) pa_nil))))))))) (pss_one (ps_ret pe_bl)) pss_nil)
      (pss_cons (ps_if (PW.pt (pw_or (pt_not (pt_val (pe_callB call_isi (by rfl) T.z_isinstance bb_isinstance (pa_cons (pv 4) (pa_cons (pe_bty T.z_tuple bb_tuple) pa_nil))))) (pw_or (pt_cmpR op_gt (pe_callB (callK_len K) (by rfl) T.z_len PySem.boot_len (pa_cons (pv 4) pa_nil)) (pe_gint T.c_MOST_READS) (nomark _)) (pw_or1 (pt_not (pt_val (pe_callB call_isi (by rfl) T.z_isinstance bb_isinstance (pa_cons (pv 6) (pa_cons (pe_bty T.z_tuple bb_tuple) pa_nil))))))))) (pss_one (ps_ret pe_bl)) pss_nil)
      (pss_cons (ps_if (pt_not (pt_val (pe_callB (cr_all rfl) (by rfl) T.z_all bb_all (pa_cons (pe_lc (own := [("slot", 7)]) rfl sc_is_unit.nd (pi_tup (pv 4)) (blkOk_by (own := [("slot", 7)]) (N := N_is_unit) (sc := defScope s_is_unit) (by decide +kernel)) (fun _ _ _ _ _ => (pg_name (i := 7) sc_is_unit.nd rfl (Or.inl rfl))) (fun _ _ _ _ _ => pts_nil) (fun _ _ _ _ _ => (pe_cal g_is_whole hr (by decide) (pa_cons (pv 7) (pa_cons pe_int (pa_cons (pe_op op_sub (pe_gint T.c_SLOTS) pe_int) pa_nil)))))) pa_nil)))) (pss_one (ps_ret pe_bl)) pss_nil)
      (pss_one (ps_ret (pe_and (pe_or (pe_cmpR op_isN (pv 5) pe_non (nomark _)) (pe_one (pe_cal g_is_whole hr (by decide) (pa_cons (pv 5) (pa_cons pe_int (pa_cons (pe_op op_sub (pe_gint T.c_SLOTS) pe_int) pa_nil)))))) (pe_one (pe_callB (cr_all rfl) (by rfl) T.z_all bb_all (pa_cons (pe_lc (own := [("one", 8)]) rfl sc_is_unit.nd (pi_tup (pv 6)) (blkOk_by (own := [("one", 8)]) (N := N_is_unit) (sc := defScope s_is_unit) (by decide +kernel)) (fun _ _ _ _ _ => (pg_name (i := 8) sc_is_unit.nd rfl (Or.inl rfl))) (fun _ _ _ _ _ => pts_nil) (fun _ _ _ _ _ => (pe_cal g_is_letter hr (by decide) (pa_cons (pv 8) pa_nil)))) pa_nil))))))))))), ?_⟩
    obtain ⟨⟨s, l, hu, hs, hl⟩, ⟨tk, few, slots, writes⟩⟩ := hx
    refine ⟨_, rfl, _, _, _, _, true, rfl, .ty _, tyT hu, kit_tt, _, rfl, iteF ?_⟩
    refine ⟨_, rfl, u, _, rfl, .inr hu, rfl, _, rfl, iteNS rfl ?_⟩
    refine ⟨_, rfl, u, _, 0, .str "unit", rfl, rfl, hu, rfl, _, _, _, _, true, rfl, .ty _, tyS, kit_ss, _, rfl, iteF ?_⟩
    refine ⟨_, rfl, u, _, 0, .str "unit", rfl, rfl, hu, rfl, rfl, _, rfl, iteNS rfl ?_⟩
    refine ⟨_, rfl, u, _, rfl, hu, rfl, _, _, rfl, _, _, rfl, _, _, rfl, _, _, rfl, _, _, rfl, _, _, rfl, rfl, ?_⟩
    refine ⟨_, rfl, _, _, _, rfl, by omega, by omega, _, rfl, iteF ?_⟩
    refine ⟨_, rfl, _, _, _, rfl, by decide, by decide, _, rfl, iteF ?_⟩
    refine ⟨_, rfl, _, _, _, _, true, rfl, .ty _, tyT hs, kit_tt, _, rfl, iteF ?_⟩
    refine ⟨_, rfl, s, _, rfl, .inr hs, _, _, rfl, rfl, _, rfl, iteD (fun z => absurd z (by rw [List.length_map]; omega)) fun _ => ?_⟩
    refine ⟨_, rfl, _, _, _, _, true, rfl, .ty _, tyT hl, kit_tt, _, rfl, iteF ?_⟩
    refine ⟨_, rfl, s, rfl, ⟨_, hs⟩, fun D hD => ?_⟩
    refine lc_it (walk_tup (xs := x.slots.map nV)) (fun i H' => Same H H' ∧ H' D = some (.lst (List.replicate i (.bl true)))) ⟨same_new hD, upd_same⟩ (fun i H' _ h => h.1.tup hs) ?_ ?_
    · rintro i y H' _ hi ⟨s1, d1⟩ ⟨rfl, hy⟩
      obtain ⟨n, hn, rfl⟩ := List.mem_map.mp (List.mem_of_getElem? hy)
      have hn4 := slots n hn
      refine ⟨rfl, t_yes (iteT ?_)⟩
      refine ⟨_, rfl, _, _, rfl, rfl, _, _, _, rfl, by omega, (show (n : Int) ≤ 4 - 1 by omega), _, d1, ?_, ?_, ?_⟩
      · rw [List.length_replicate]
        rw [List.length_map] at hi
        exact small1000 (by omega)
      · intro b o e
        rw [upd_ne (ne_of_none e hD)]
        exact s1 b o e
      · rw [upd_same, List.replicate_succ']
    rintro H1 ⟨s1, d1⟩
    refine ⟨D, List.replicate (x.slots.map nV).length true, rfl, .of (by rw [List.map_replicate]; exact d1), ?_⟩
    rw [show (List.replicate (x.slots.map nV).length true).all id = true by simp]
    refine ⟨_, rfl, iteF ?_⟩
    have last : ∀ (σ : L2.St), σ[6]? = some (some (V.ref l)) → ∀ H', Same H1 H' → ∀ H2, Same H' H2 → Q (.bl true) H2 := fun σ _ H' e H2 e2 => q H2 ((s1.trans e).trans e2)
    have hl1 := s1.tup hl
    have lets : ∀ {y : V}, y ∈ lettersL (x.slots.length : Nat) → y = .int 208 := fun {y} h => by
      unfold lettersL at h
      split at h
      · exact absurd h (by simp)
      · simpa using h
    have len1 : (lettersL (x.slots.length : Nat)).length ≤ 1 := by
      unfold lettersL
      split <;> simp
    cases hw : x.writes with
    | none =>
      refine ⟨_, rfl, rfl, _, rfl, iteT ⟨_, rfl, iteT ?_⟩⟩
      refine ⟨_, rfl, l, rfl, ⟨_, hl1⟩, fun D2 hD2 => ?_⟩
      refine lc_it (walk_tup (xs := lettersL (x.slots.length : Nat))) (fun i H' => Same H1 H' ∧ H' D2 = some (.lst (List.replicate i (.bl true)))) ⟨same_new hD2, upd_same⟩ (fun i H' _ h => h.1.tup hl1) ?_ ?_
      · rintro i y H' _ hi ⟨s2, d2⟩ ⟨rfl, hy⟩
        obtain rfl := lets (List.mem_of_getElem? hy)
        refine ⟨rfl, t_yes (iteT ?_)⟩
        refine ⟨_, rfl, _, rfl, by decide, by decide, _, d2, ?_, ?_, ?_⟩
        · rw [List.length_replicate]
          exact small1000 (by omega)
        · intro b o e
          rw [upd_ne (ne_of_none e hD2)]
          exact s2 b o e
        · rw [upd_same, List.replicate_succ']
      · rintro H2 ⟨s2, d2⟩
        refine ⟨D2, List.replicate (lettersL (x.slots.length : Nat)).length true, rfl, .of (by rw [List.map_replicate]; exact d2), ?_⟩
        rw [show (List.replicate (lettersL (x.slots.length : Nat)).length true).all id = true by simp]
        exact q H2 (s1.trans s2)
    | some wr =>
      have hw4 := writes wr hw
      refine ⟨_, rfl, rfl, _, rfl, iteF ?_⟩
      refine ⟨_, rfl, _, _, rfl, rfl, _, _, _, rfl, by omega, (show (wr : Int) ≤ 4 - 1 by omega), _, rfl, iteT ?_⟩
      refine ⟨_, rfl, l, rfl, ⟨_, hl1⟩, fun D2 hD2 => ?_⟩
      refine lc_it (walk_tup (xs := lettersL (x.slots.length : Nat))) (fun i H' => Same H1 H' ∧ H' D2 = some (.lst (List.replicate i (.bl true)))) ⟨same_new hD2, upd_same⟩ (fun i H' _ h => h.1.tup hl1) ?_ ?_
      · rintro i y H' _ hi ⟨s2, d2⟩ ⟨rfl, hy⟩
        obtain rfl := lets (List.mem_of_getElem? hy)
        refine ⟨rfl, t_yes (iteT ?_)⟩
        refine ⟨_, rfl, _, rfl, by decide, by decide, _, d2, ?_, ?_, ?_⟩
        · rw [List.length_replicate]
          exact small1000 (by omega)
        · intro b o e
          rw [upd_ne (ne_of_none e hD2)]
          exact s2 b o e
        · rw [upd_same, List.replicate_succ']
      · rintro H2 ⟨s2, d2⟩
        refine ⟨D2, List.replicate (lettersL (x.slots.length : Nat)).length true, rfl, .of (by rw [List.map_replicate]; exact d2), ?_⟩
        rw [show (List.replicate (lettersL (x.slots.length : Nat)).length true).all id = true by simp]
        exact q H2 (s1.trans s2)
end
end K36
namespace K36
open L2 PySem
open PySem.Spec PyProof.Rows
/-! ### what a row keeps -/
def laidAfter (laid : List (Option Nat)) (wr : Option Nat) (i : Nat) : List (Option Nat) := match wr with
  | none => laid
  | some s => laid.set s (some i)
/-- who wrote each slot last, ahead of the i-th unit -/
def laidN (us : List WU) : Nat → List (Option Nat)
  | 0 => List.replicate 4 none
  | i + 1 => match us[i]? with
    | some u => laidAfter (laidN us i) u.writes i
    | none => laidN us i
def readOf (laid : List (Option Nat)) (s : Nat) : Nat := ((laid[s]?).join).getD 0
/-- the units that the i-th unit reads -/
def readsN (us : List WU) (i : Nat) : List Nat := match us[i]? with
  | some u => u.slots.map (readOf (laidN us i))
  | none => []
theorem laidN_len (us : List WU) : ∀ i, (laidN us i).length = 4
  | 0 => rfl
  | i + 1 => by
    unfold laidN
    split
    · unfold laidAfter
      split
      · exact laidN_len us i
      · rw [List.length_set]
        exact laidN_len us i
    · exact laidN_len us i
/-- each slot that a unit reads is laid ahead of it -/
def Laid (us : List WU) : Prop := ∀ i u, us[i]? = some u → ∀ s ∈ u.slots, ∃ x, (laidN us i)[s]? = some (some x)
def rowf (ua ca rl dl : Addr) : List (Str × V) := [("width", .int 4), ("height", .int 4), ("all_units", .ref ua), ("all_choices", .ref ca), ("all_reads", .ref rl), ("places_by_tick", .ref dl)]
section
variable {ua ca rl dl : Addr}
theorem rf_width : (rowf ua ca rl dl).lookup ("width" : Str) = some (.int 4) := lk_hd
theorem rf_height : (rowf ua ca rl dl).lookup ("height" : Str) = some (.int 4) := (lk_tl (by decide +kernel)).trans lk_hd
theorem rf_units : (rowf ua ca rl dl).lookup ("all_units" : Str) = some (.ref ua) := (lk_tl (by decide +kernel)).trans ((lk_tl (by decide +kernel)).trans lk_hd)
theorem rf_choices : (rowf ua ca rl dl).lookup ("all_choices" : Str) = some (.ref ca) := (lk_tl (by decide +kernel)).trans ((lk_tl (by decide +kernel)).trans ((lk_tl (by decide +kernel)).trans lk_hd))
theorem rf_reads : (rowf ua ca rl dl).lookup ("all_reads" : Str) = some (.ref rl) := (lk_tl (by decide +kernel)).trans ((lk_tl (by decide +kernel)).trans ((lk_tl (by decide +kernel)).trans ((lk_tl (by decide +kernel)).trans lk_hd)))
theorem rf_places : (rowf ua ca rl dl).lookup ("places_by_tick" : Str) = some (.ref dl) := (lk_tl (by decide +kernel)).trans ((lk_tl (by decide +kernel)).trans ((lk_tl (by decide +kernel)).trans ((lk_tl (by decide +kernel)).trans ((lk_tl (by decide +kernel)).trans lk_hd))))
theorem rf_no {m : Str} (h : m ∉ (["width", "height", "all_units", "all_choices", "all_reads", "places_by_tick"] : List Str)) : (rowf ua ca rl dl).lookup m = none := by
  simp only [List.mem_cons, not_or, List.not_mem_nil, not_false_eq_true, and_true] at h
  obtain ⟨h1, h2, h3, h4, h5, h6⟩ := h
  exact (lk_tl h1).trans ((lk_tl h2).trans ((lk_tl h3).trans ((lk_tl h4).trans ((lk_tl h5).trans ((lk_tl h6).trans rfl)))))
end
/-- a row in the making: i units taken -/
structure RowSt (K : PySem.W.Frag) (C : Addr) (H : Hp) (p l : Addr) (us : List WU) (i : Nat) (ua ca rl dl : Addr) : Prop where
  ob : ∃ dx, H p = some (.ins C dx (rowf ua ca rl dl))
  fca : ∃ cs : List V, H ca = some (.lst cs) ∧ cs.length = i
  frl : ∃ rs : List V, H rl = some (.lst rs) ∧ rs.length = i ∧ ∀ j, j < i → ∃ a, rs[j]? = some (.ref a) ∧ SqT K H a ((readsN us j).map nV)
  fdl : ∃ kvs : List (Key × V), H dl = some (.dK kvs) ∧ kvs.map (·.1) = (us.take i).map fun x => Sum.inl ((x.tick : Nat) : Int)
  fld : H l = some (.lst ((laidN us i).map oV))
  n1 : ca ≠ rl
  n2 : ca ≠ l
  n3 : rl ≠ l
theorem RowSt.same {K : PySem.W.Frag} {C : Addr} {H H' : Hp} {p l : Addr} {us : List WU} {i : Nat} {ua ca rl dl : Addr} (h : RowSt K C H p l us i ua ca rl dl) (s : Same H H') : RowSt K C H' p l us i ua ca rl dl := by
  obtain ⟨⟨dx, h1⟩, ⟨cs, h2, h2b⟩, ⟨rs, h3, h3b, h3c⟩, ⟨kvs, h4, h4b⟩, h5, n1, n2, n3⟩ := h
  refine ⟨⟨dx, s _ _ h1⟩, ⟨cs, s _ _ h2, h2b⟩, ⟨rs, s _ _ h3, h3b, fun j hj => ?_⟩, ⟨kvs, s _ _ h4, h4b⟩, s _ _ h5, n1, n2, n3⟩
  obtain ⟨a, e, t⟩ := h3c j hj
  exact ⟨a, e, s.tup t⟩
theorem notTup_l {H : Hp} {l : Addr} {xs : List V} (h : H l = some (.lst xs)) : NotTup [l] H := fun x hx ys => by
  rw [List.mem_singleton.mp hx, h]
  exact ⟨(fun z => nomatch z), fun o z => nomatch z⟩
theorem notTup_d {H : Hp} {l : Addr} {xs : List (Key × V)} (h : H l = some (.dK xs)) : NotTup [l] H := fun x hx ys => by
  rw [List.mem_singleton.mp hx, h]
  exact ⟨(fun z => nomatch z), fun o z => nomatch z⟩
section
variable {P : Program} {w : World} {K : PySem.W.Frag} {mg : Str → Option Value} {base : Heap}
def spTake (K : PySem.W.Frag) (C : Addr) : Sp := fun vs H Q _ => ∃ p i u l us ua ca rl dl x, vs = [.ref p, nV i, .ref u, .ref l] ∧ RowSt K C H p l us i ua ca rl dl ∧ us[i]? = some x ∧ UnitAt K H u x ∧ i < 24 ∧
  (∀ s ∈ x.slots, ∃ y, (laidN us i)[s]? = some (some y)) ∧ (∀ y ∈ us.take i, y.tick ≠ x.tick) ∧ ∀ H', RowSt K C H' p l us (i + 1) ua ca rl dl → Kept [ca, rl, dl, l] H H' → Q .non H'
theorem join_of {laid : List (Option Nat)} {s y : Nat} (h : laid[s]? = some (some y)) : readOf laid s = y := by
  unfold readOf
  rw [h]
  rfl
theorem atI_nat {α : Type} {xs : List α} {i : Nat} {x : α} (h : xs[i]? = some x) : atI xs ((i : Nat) : Int) = some x := by
  have h1 := (List.getElem?_eq_some_iff.mp h).1
  unfold atI ixN
  rw [if_pos (by omega), if_pos (by omega)]
  simpa using h
theorem ixN_nat {n i : Nat} (h : i < n) : ixN n ((i : Nat) : Int) = some i := by
  unfold ixN
  rw [if_pos (by omega), if_pos (by omega)]
  simp
theorem hno7_of {us : List WU} {i : Nat} {x : WU} {kvs : List (Key × V)} (hk : kvs.map (·.1) = (us.take i).map fun x => Sum.inl ((x.tick : Nat) : Int)) (hnew : ∀ y ∈ us.take i, y.tick ≠ x.tick) : (Sum.inl ((x.tick : Nat) : Int) : Key) ∉ kvs.map (·.1) := by
  rw [hk]
  intro z
  obtain ⟨y, hy, e⟩ := List.mem_map.mp z
  exact hnew y hy (by have := Sum.inl.inj e; omega)
theorem flat_nats (xs : List Nat) : (xs.map nV).all flatV = true := by
  rw [List.all_map]
  exact List.all_eq_true.mpr fun _ _ => rfl
theorem noNone (xs : List Nat) : inV .non (xs.map nV) = false := by
  unfold inV
  rw [List.any_map]
  exact List.any_eq_false.mpr fun _ _ => (by show ¬ false = true; decide)
theorem mapGet {α β : Type} {f : α → β} {xs : List α} {i : Nat} {y : β} (h : (xs.map f)[i]? = some y) : ∃ x, xs[i]? = some x ∧ y = f x := by
  rw [List.getElem?_map] at h
  cases e : xs[i]? with
  | none => rw [e] at h; cases h
  | some x => rw [e] at h; exact ⟨x, rfl, (Option.some.inj h).symm⟩
theorem take_next {α : Type} {xs : List α} {i : Nat} {x : α} (h : xs[i]? = some x) : xs.take (i + 1) = xs.take i ++ [x] := by
  rw [List.take_add_one, h]
  rfl
theorem ok_take (T : Txt w K mg) : MtAt P w K mg base 8 "Row" "take" ["self", "at", "unit", "laid"] (spTake K (ga K "Row")) := by
  have g_is_unit : FnAt P w K mg base 3 _ _ (spUnit K) := ok_is_unit T
  have g_choices_of : FnAt P w K mg base 7 _ _ (spChoicesOf K) := ok_choices_of T
  refine MtAt.of T.k_Row T.m_Row_take sc_Row_take (fun _ _ _ _ _ _ us hl => match us, hl with | [_, _, _, _], _ => rfl) (fun vs H Q E h => ?_) (fun cdv A outer s H vs Q E hr h => ?_)
  · obtain ⟨p, i, u, l, us, ua, ca, rl, dl, x, rfl, _⟩ := h
    rfl
  · obtain ⟨p, i, u, l, us, ua, ca, rl, dl, x, rfl, st, hx, hux, hi24, hlaid, hnew, q⟩ := h
    have hu := hu_of hr
    refine ⟨_, (pss_cons (ps_if (PW.pt (pw_or (pt_not (pt_val (pe_cal g_is_unit hr (by decide) (pa_cons (pv 2) pa_nil)))) (pw_or (pt_cmp (pc_din hu (pe_ix (ixK_tup K) (pv 2) pe_int (fun _ _ => rfl)) (pe_fld (pv 0) rfl)) rfl) (pw_or1 (pt_cmpR (opK_in K) pe_non (pe_lc (own := [("slot", 12)]) rfl sc_Row_take.nd (pi_tup (pe_ix (ixK_tup K) (pv 2) pe_int (fun _ _ => rfl))) (blkOk_by (own := [("slot", 12)]) (N := N_Row_take) (sc := defScope s_Row_take) (by decide +kernel)) (fun _ _ _ _ _ => (pg_name (i := 12) sc_Row_take.nd rfl (Or.inl rfl))) (fun _ _ _ _ _ => pts_nil) (fun _ _ _ _ _ => (pe_ix (ixK_list K) (pv 3) (pv 12) (fun _ _ => rfl)))) (by rfl)))))) (pss_one ps_never) pss_nil)
      (pss_cons (ps_asg (pv 2) (pg_tup (by rfl) (pgs_cons (pg_name (i := 4) sc_Row_take.nd rfl (Or.inl rfl)) (pgs_cons (pg_name (i := 5) sc_Row_take.nd rfl (Or.inl rfl)) (pgs_cons (pg_name (i := 6) sc_Row_take.nd rfl (Or.inl rfl)) (pgs_cons (pg_name (i := 7) sc_Row_take.nd rfl (Or.inl rfl)) (pgs_cons (pg_name (i := 8) sc_Row_take.nd rfl (Or.inl rfl)) (pgs_cons (pg_name (i := 9) sc_Row_take.nd rfl (Or.inl rfl)) pgs_nil))))))))
      (pss_cons (ps_try_thru0 (pss_one (ps_set (i := 10) sc_Row_take.nd rfl (Or.inl rfl) (pe_cal g_choices_of hr (by decide) (pa_cons (pv 9) (pa_cons (pe_fld (pv 0) rfl) (pa_cons (pe_fld (pv 0) rfl) (pa_cons (pe_callB (callK_len K) (by rfl) T.z_len PySem.boot_len (pa_cons (pv 7) pa_nil)) pa_nil))))))))
      (pss_cons (ps_expr (pe_bm PySem.F.plainAttrs_list PySem.F.slot_list_append PySem.F.type_list_append mt_append (pe_fld (pv 0) rfl) (pa_cons (pv 10) pa_nil)))
      (pss_cons (ps_expr (pe_bm PySem.F.plainAttrs_list PySem.F.slot_list_append PySem.F.type_list_append mt_append (pe_fld (pv 0) rfl) (pa_cons (pe_callTy call_tuple_of (by rfl) T.z_tuple bb_tuple (pa_cons (pe_lc (own := [("slot", 12)]) rfl sc_Row_take.nd (pi_tup (pv 7)) (blkOk_by (own := [("slot", 12)]) (N := N_Row_take) (sc := defScope s_Row_take) (by decide +kernel)) (fun _ _ _ _ _ => (pg_name (i := 12) sc_Row_take.nd rfl (Or.inl rfl))) (fun _ _ _ _ _ => pts_nil) (fun _ _ _ _ _ => (pe_ix (ixK_list K) (pv 3) (pv 12) (fun _ _ => rfl)))) pa_nil)) pa_nil)))
      (pss_cons (ps_dput hu (pe_fld (pv 0) rfl) (pv 5) (pv 1) rfl)
      (pss_one (ps_if (pt_cmpR op_notN (pv 8) pe_non (nomark _)) (pss_one (ps_asg (pv 1) (pg_sub (pv 3) (pv 8) set_list))) pss_nil)))))))), ?_⟩
    refine ⟨_, rfl, u, x, rfl, hux, fun H1 s1 => ⟨_, rfl, iteF ?_⟩⟩
    have st1 := st.same s1
    obtain ⟨dx, hp⟩ := st1.ob
    obtain ⟨kvs, hd, hk⟩ := st1.fdl
    obtain ⟨⟨sa, la, hu1, hs1, hl1⟩, ok⟩ := hux.same s1
    have hno : (Sum.inl ((x.tick : Nat) : Int) : Key) ∉ kvs.map (·.1) := by
      rw [hk]
      intro z
      obtain ⟨y, hy, e⟩ := List.mem_map.mp z
      exact hnew y hy (by have := Sum.inl.inj e; omega)
    refine ⟨_, rfl, u, _, 1, nV x.tick, rfl, rfl, hu1, rfl, _, rfl, p, _, dx, _, _, rfl, hp, T.k_Row, T.n_Row_places_by_tick, rf_places, dl, _, rfl, DGet.k (k := Sum.inl ((x.tick : Nat) : Int)) hd, _, rfl, ?_⟩
    rw [valV_no hno]
    refine iteF ?_
    have rds : readsN us i = x.slots.map (readOf (laidN us i)) := by
      unfold readsN
      rw [hx]
    have few := ok.few
    refine ⟨_, rfl, u, _, 3, .ref sa, rfl, rfl, hu1, rfl, sa, rfl, ⟨_, hs1⟩, fun D hD => ?_⟩
    refine lc_it (walk_tup (xs := x.slots.map nV)) (fun j H' => Same H1 H' ∧ H' D = some (.lst (((x.slots.take j).map (readOf (laidN us i))).map nV))) ⟨same_new hD, upd_same⟩ (fun j H' _ h => h.1.tup hs1) ?_ ?_
    · rintro j y H' _ hj ⟨s2, d2⟩ ⟨rfl, hy⟩
      obtain ⟨n, hn, rfl⟩ := mapGet hy
      obtain ⟨v, hv⟩ := hlaid n (List.mem_of_getElem? hn)
      refine ⟨rfl, t_yes (iteT ?_)⟩
      refine ⟨_, rfl, _, rfl, l, _, n, oV (some v), rfl, rfl, .of (s2 _ _ st1.fld), atI_nat (by rw [List.getElem?_map, hv]; rfl), _, d2, ?_, ?_, ?_⟩
      · rw [List.length_map, List.length_map, List.length_take]
        exact small1000 (by omega)
      · intro b o e
        rw [upd_ne (ne_of_none e hD)]
        exact s2 b o e
      · rw [upd_same, take_next hn, List.map_append, List.map_append]
        show some (HO.lst (_ ++ [nV v])) = some (HO.lst (_ ++ [nV (readOf (laidN us i) n)]))
        rw [join_of hv]
    rintro H2 ⟨s2, d2⟩
    rw [List.length_map, List.take_length, ← rds] at d2
    refine ⟨D, _, rfl, .inl (.of d2), rfl, flat_nats _, _, rfl, ?_⟩
    rw [noNone]
    refine iteF ?_
    have st2 := st1.same s2
    have hu2 := s2.tup hu1
    have hs2 := s2.tup hs1
    have hl2 := s2.tup hl1
    refine ⟨_, rfl, u, _, rfl, hu2, rfl, _, _, rfl, _, _, rfl, _, _, rfl, _, _, rfl, _, _, rfl, _, _, rfl, rfl, ?_⟩
    obtain ⟨dx, hp⟩ := st2.ob
    have elen : (x.slots.map nV).length = x.slots.length := List.length_map _
    refine ⟨_, rfl, _, rfl, p, _, dx, _, _, rfl, hp, T.k_Row, T.n_Row_width, rf_width, _, rfl, p, _, dx, _, _, rfl, hp, T.k_Row, T.n_Row_height, rf_height, _, rfl, sa, _, rfl, .inr hs2, ?_⟩
    refine ⟨la, _, rfl, by rw [elen]; omega, by rw [elen]; exact hl2, fun v H3 s3 => ?_⟩
    have st3 := st2.same s3
    have hs3 := s3.tup hs2
    obtain ⟨dx, hp⟩ := st3.ob
    obtain ⟨cs, hca, hcl⟩ := st3.fca
    obtain ⟨rs, hrl, hrlen, hrds⟩ := st3.frl
    obtain ⟨kvs, hd, hk⟩ := st3.fdl
    have hld := st3.fld
    have n1 := st3.n1
    have n2 := st3.n2
    have n3 := st3.n3
    have npca : p ≠ ca := ne_of hp hca (fun z => nomatch z)
    have nprl : p ≠ rl := ne_of hp hrl (fun z => nomatch z)
    have npdl : p ≠ dl := ne_of hp hd (fun z => nomatch z)
    have npl : p ≠ l := ne_of hp hld (fun z => nomatch z)
    have ncd : ca ≠ dl := ne_of hca hd (fun z => nomatch z)
    have nrd : rl ≠ dl := ne_of hrl hd (fun z => nomatch z)
    have nld : l ≠ dl := ne_of hld hd (fun z => nomatch z)
    have ap : Q = Q := rfl
    refine ⟨_, rfl, p, _, dx, _, _, rfl, hp, T.k_Row, T.n_Row_all_choices, rf_choices, .inl ⟨rfl, _, .of hca⟩, _, rfl, ca, cs, v, rfl, rfl, hca, small1000 (by omega), ?_⟩
    -- the heap behind the first append
    have k4 : Kept [ca] H3 (upd H3 ca (.lst (cs ++ [v]))) := kept_upd (by simp)
    have n4 := notTup_l hca
    have hp4 : (upd H3 ca (.lst (cs ++ [v]))) p = some (.ins (ga K "Row") dx (rowf ua ca rl dl)) := by rw [upd_ne npca]; exact hp
    have hca4 : (upd H3 ca (.lst (cs ++ [v]))) ca = some (.lst (cs ++ [v])) := upd_same
    have hrl4 : (upd H3 ca (.lst (cs ++ [v]))) rl = some (.lst rs) := by rw [upd_ne n1.symm]; exact hrl
    have hd4 : (upd H3 ca (.lst (cs ++ [v]))) dl = some (.dK kvs) := by rw [upd_ne ncd.symm]; exact hd
    have hld4 : (upd H3 ca (.lst (cs ++ [v]))) l = some (.lst ((laidN us i).map oV)) := by rw [upd_ne n2.symm]; exact hld
    generalize (upd H3 ca (.lst (cs ++ [v]))) = H4 at k4 hp4 hca4 hrl4 hd4 hld4
    have hs4 := k4.tupN hs3 n4
    refine ⟨_, rfl, p, _, dx, _, _, rfl, hp4, T.k_Row, T.n_Row_all_reads, rf_reads, .inl ⟨rfl, _, .of hrl4⟩, _, rfl, sa, rfl, ⟨_, hs4⟩, fun D2 hD2 => ?_⟩
    refine lc_it (walk_tup (xs := x.slots.map nV)) (fun j H' => Same H4 H' ∧ H' D2 = some (.lst (((x.slots.take j).map (readOf (laidN us i))).map nV))) ⟨same_new hD2, upd_same⟩ (fun j H' _ h => h.1.tup hs4) ?_ ?_
    · rintro j y H' _ hj ⟨s5, d5⟩ ⟨rfl, hy⟩
      obtain ⟨n, hn, rfl⟩ := mapGet hy
      obtain ⟨v2, hv⟩ := hlaid n (List.mem_of_getElem? hn)
      refine ⟨rfl, t_yes (iteT ?_)⟩
      refine ⟨_, rfl, _, rfl, l, _, n, oV (some v2), rfl, rfl, .of (s5 _ _ hld4), atI_nat (by rw [List.getElem?_map, hv]; rfl), _, d5, ?_, ?_, ?_⟩
      · rw [List.length_map, List.length_map, List.length_take]
        exact small1000 (by omega)
      · intro b o e
        rw [upd_ne (ne_of_none e hD2)]
        exact s5 b o e
      · rw [upd_same, take_next hn, List.map_append, List.map_append]
        show some (HO.lst (_ ++ [nV v2])) = some (HO.lst (_ ++ [nV (readOf (laidN us i) n)]))
        rw [join_of hv]
    rintro H5 ⟨s5, d5⟩
    rw [List.length_map, List.take_length, ← rds] at d5
    refine ⟨D2, _, rfl, .inl ⟨.of d5, fun t ht => ?_⟩⟩
    have s6 : Same H4 (upd H5 t (.tup ((readsN us i).map nV))) := s5.new ht
    have ht6 : SqT K (upd H5 t (.tup ((readsN us i).map nV))) t ((readsN us i).map nV) := .of upd_same
    generalize (upd H5 t (.tup ((readsN us i).map nV))) = H6 at s6 ht6
    refine ⟨rl, rs, .ref t, rfl, rfl, s6 _ _ hrl4, small1000 (by omega), ?_⟩
    have k7 : Kept [rl] H6 (upd H6 rl (.lst (rs ++ [.ref t]))) := kept_upd (by simp)
    have n7 := notTup_l (s6 _ _ hrl4)
    have hp7 : (upd H6 rl (.lst (rs ++ [.ref t]))) p = some (.ins (ga K "Row") dx (rowf ua ca rl dl)) := by rw [upd_ne nprl]; exact s6 _ _ hp4
    have hca7 : (upd H6 rl (.lst (rs ++ [.ref t]))) ca = some (.lst (cs ++ [v])) := by rw [upd_ne n1]; exact s6 _ _ hca4
    have hrl7 : (upd H6 rl (.lst (rs ++ [.ref t]))) rl = some (.lst (rs ++ [.ref t])) := upd_same
    have hd7 : (upd H6 rl (.lst (rs ++ [.ref t]))) dl = some (.dK kvs) := by rw [upd_ne nrd.symm]; exact s6 _ _ hd4
    have hld7 : (upd H6 rl (.lst (rs ++ [.ref t]))) l = some (.lst ((laidN us i).map oV)) := by rw [upd_ne n3.symm]; exact s6 _ _ hld4
    generalize (upd H6 rl (.lst (rs ++ [.ref t]))) = H7 at k7 hp7 hca7 hrl7 hd7 hld7
    have ht7 := k7.tupN ht6 n7
    have hrds7 : ∀ j, j < i + 1 → ∃ a, (rs ++ [V.ref t])[j]? = some (.ref a) ∧ SqT K H7 a ((readsN us j).map nV) := fun j hj => by
      by_cases hji : j < i
      · obtain ⟨a, e, ta⟩ := hrds j hji
        exact ⟨a, by rw [List.getElem?_append_left (by omega)]; exact e, k7.tupN (s6.tup (k4.tupN ta n4)) n7⟩
      · obtain rfl : j = i := by omega
        exact ⟨t, by rw [← hrlen]; simp, ht7⟩
    refine ⟨_, rfl, _, rfl, p, _, dx, _, _, rfl, hp7, T.k_Row, T.n_Row_places_by_tick, rf_places, ?_⟩
    refine ⟨_, rfl, dl, _, rfl, DPut.k (k := Sum.inl ((x.tick : Nat) : Int)) hd7 (small1000 (by
      have : kvs.length = (us.take i).length := by
        rw [← List.length_map (f := (·.1)) , hk, List.length_map]
      rw [this, List.length_take]
      omega)), ?_⟩
    have hno7 := hno7_of hk (fun y hy => hnew y hy)
    have k8 : Kept [dl] H7 (upd H7 dl (.dK (putK kvs (Sum.inl ((x.tick : Nat) : Int)) (nV i)))) := kept_upd (by simp)
    have n8 := notTup_d hd7
    have hp8 : (upd H7 dl (.dK (putK kvs (Sum.inl ((x.tick : Nat) : Int)) (nV i)))) p = some (.ins (ga K "Row") dx (rowf ua ca rl dl)) := by rw [upd_ne npdl]; exact hp7
    have hca8 : (upd H7 dl (.dK (putK kvs (Sum.inl ((x.tick : Nat) : Int)) (nV i)))) ca = some (.lst (cs ++ [v])) := by rw [upd_ne ncd]; exact hca7
    have hrl8 : (upd H7 dl (.dK (putK kvs (Sum.inl ((x.tick : Nat) : Int)) (nV i)))) rl = some (.lst (rs ++ [.ref t])) := by rw [upd_ne nrd]; exact hrl7
    have hd8 : (upd H7 dl (.dK (putK kvs (Sum.inl ((x.tick : Nat) : Int)) (nV i)))) dl = some (.dK (putK kvs (Sum.inl ((x.tick : Nat) : Int)) (nV i))) := upd_same
    have hld8 : (upd H7 dl (.dK (putK kvs (Sum.inl ((x.tick : Nat) : Int)) (nV i)))) l = some (.lst ((laidN us i).map oV)) := by rw [upd_ne nld]; exact hld7
    generalize (upd H7 dl (.dK (putK kvs (Sum.inl ((x.tick : Nat) : Int)) (nV i)))) = H8 at k8 hp8 hca8 hrl8 hd8 hld8
    have hrds8 : ∀ j, j < i + 1 → ∃ a, (rs ++ [V.ref t])[j]? = some (.ref a) ∧ SqT K H8 a ((readsN us j).map nV) := fun j hj =>
      let ⟨a, e, ta⟩ := hrds7 j hj
      ⟨a, e, k8.tupN ta n8⟩
    have hk8 : (putK kvs (Sum.inl ((x.tick : Nat) : Int)) (nV i)).map (·.1) = (us.take (i + 1)).map fun y => Sum.inl ((y.tick : Nat) : Int) := by
      rw [putK_new _ (valV_no hno7), List.map_append, hk, take_next hx, List.map_append]
      rfl
    have K8 : Kept [ca, rl, dl, l] H H8 := by
      have a1 : Kept [ca, rl, dl, l] H H3 := ((s1.trans s2).trans s3).kept
      have a2 : Kept [ca, rl, dl, l] H3 H4 := k4.mono (by simp)
      have a3 : Kept [ca, rl, dl, l] H4 H6 := s6.kept
      have a4 : Kept [ca, rl, dl, l] H6 H7 := k7.mono (by simp)
      exact (((a1.trans a2).trans a3).trans a4).trans (k8.mono (by simp))
    have hnext : laidN us (i + 1) = laidAfter (laidN us i) x.writes i := by
      show (match us[i]? with | some u => laidAfter (laidN us i) u.writes i | none => laidN us i) = _
      rw [hx]
    have clen : (cs ++ [v]).length = i + 1 := by rw [List.length_append, hcl]; rfl
    have rlen : (rs ++ [V.ref t]).length = i + 1 := by rw [List.length_append, hrlen]; rfl
    cases hw : x.writes with
    | none =>
      refine ⟨_, rfl, rfl, _, rfl, iteF ?_⟩
      refine q H8 ⟨⟨dx, hp8⟩, ⟨_, hca8, clen⟩, ⟨_, hrl8, rlen, hrds8⟩, ⟨_, hd8, hk8⟩, ?_, n1, n2, n3⟩ K8
      rw [hnext, hw]
      exact hld8
    | some wr =>
      have hw4 := ok.writes wr hw
      refine ⟨_, rfl, rfl, _, rfl, iteT ?_⟩
      refine ⟨_, rfl, _, rfl, _, rfl, l, _, wr, wr, rfl, rfl, hld8, ixN_nat (by rw [List.length_map, laidN_len]; exact hw4), ?_⟩
      have k9 : Kept [l] H8 (upd H8 l (.lst (((laidN us i).map oV).set wr (nV i)))) := kept_upd (by simp)
      have n9 := notTup_l hld8
      refine q _ ⟨⟨dx, by rw [upd_ne npl]; exact hp8⟩, ⟨_, by rw [upd_ne n2]; exact hca8, clen⟩, ⟨_, by rw [upd_ne n3]; exact hrl8, rlen, fun j hj => ?_⟩, ⟨_, by rw [upd_ne nld.symm]; exact hd8, hk8⟩, ?_, n1, n2, n3⟩ (K8.trans (k9.mono (by simp)))
      · obtain ⟨a, e, ta⟩ := hrds8 j hj
        exact ⟨a, e, k9.tupN ta n9⟩
      · rw [hnext, hw, upd_same]
        show _ = some (HO.lst (((laidN us i).set wr (some i)).map oV))
        rw [List.map_set]
        rfl
end
end K36
namespace K36
open L2 PySem
open PySem.Spec PyProof.Rows
theorem putF_new {m : Str} {v : V} : ∀ {fs : List (Str × V)}, (∀ g ∈ fs.map (·.1), ¬ g = m) → putF m v fs = fs ++ [(m, v)]
  | [], _ => rfl
  | (g, u) :: r, h => by
    rw [pf_tl (h g (by simp)), putF_new (fs := r) (fun x hx => h x (by simp [hx]))]
    rfl
theorem fput {H : Hp} {p C dx : Addr} {fs : List (Str × V)} {m : Str} {v : V} (hm : ∀ g ∈ fs.map (·.1), ¬ g = m) : (upd H p (.ins C dx (putF m v fs))) p = some (.ins C dx (fs ++ [(m, v)])) := by rw [upd_same, putF_new hm]
theorem fstep {H : Hp} {p C dx : Addr} {fs : List (Str × V)} {m : Str} {v : V} (hp : H p = some (.ins C dx fs)) (hm : ∀ g ∈ fs.map (·.1), ¬ g = m) :
    ∃ H', H' = upd H p (.ins C dx (putF m v fs)) ∧ H' p = some (.ins C dx (fs ++ [(m, v)])) ∧ Kept [p] H H' := ⟨_, rfl, fput hm, kept_upd (by simp)⟩
theorem Kept.over {ps qs : List Addr} {H H1 H2 : Hp} (a : Kept ps H H1) (b : Kept qs H1 H2) (n : ∀ x ∈ qs, H x = none) : Kept ps H H2 := fun c o e nc => b c o (a c o e nc) fun z => by
  rw [n c z] at e
  cases e
theorem Kept.none {ps : List Addr} {H H1 : Hp} {x : Addr} (a : Kept ps H H1) (h : H1 x = none) (n : x ∉ ps) : H x = none := by
  cases e : H x with
  | none => rfl
  | some o =>
    rw [a x o e n] at h
    cases h
theorem Kept.lst {K : PySem.W.Frag} {ps : List Addr} {H H' : Hp} {a : Addr} {xs : List V} (k : Kept ps H H') (h : SqL K H a xs) (n : a ∉ ps) : SqL K H' a xs := by
  rcases h with (h | ⟨o, h⟩) | h
  · exact .inl (.inl (k _ _ h n))
  · exact .inl (.inr ⟨o, k _ _ h n⟩)
  · exact .inr h
theorem ins_ne {H : Hp} {p x C dx : Addr} {fs : List (Str × V)} (hp : H p = some (.ins C dx fs)) (h : H x = none) : x ∉ [p] := fun z => by
  rw [List.mem_singleton.mp z, hp] at h
  cases h
theorem notTup_i {H : Hp} {p C dx : Addr} {fs : List (Str × V)} (h : H p = some (.ins C dx fs)) : NotTup [p] H := fun x hx ys => by
  rw [List.mem_singleton.mp hx, h]
  exact ⟨(fun z => nomatch z), fun o z => nomatch z⟩
/-- a row: its units, who reads what -/
structure RowAt (K : PySem.W.Frag) (C : Addr) (H : Hp) (p : Addr) (us : List WU) : Prop where
  ex : ∃ dx ua ca rl dl, ∃ uv rs : List V, H p = some (.ins C dx (rowf ua ca rl dl)) ∧ SqT K H ua uv ∧ uv.length = us.length ∧ (∀ (j : Nat) (x : WU), us[j]? = some x → ∃ a : Addr, uv[j]? = some (V.ref a) ∧ UnitAt K H a x) ∧
    H rl = some (.lst rs) ∧ rs.length = us.length ∧ ∀ (j : Nat), j < us.length → ∃ a : Addr, rs[j]? = some (V.ref a) ∧ SqT K H a ((readsN us j).map nV)
theorem RowAt.same {K : PySem.W.Frag} {C : Addr} {H H' : Hp} {p : Addr} {us : List WU} (h : RowAt K C H p us) (s : Same H H') : RowAt K C H' p us := by
  obtain ⟨dx, ua, ca, rl, dl, uv, rs, h1, h2, h3, h4, h5, h6, h7⟩ := h.ex
  refine ⟨dx, ua, ca, rl, dl, uv, rs, s _ _ h1, s.tup h2, h3, fun j x hj => ?_, s _ _ h5, h6, fun j hj => ?_⟩
  · obtain ⟨a, e, u⟩ := h4 j x hj
    exact ⟨a, e, u.same s⟩
  · obtain ⟨a, e, t⟩ := h7 j hj
    exact ⟨a, e, s.tup t⟩
theorem RowSt.notTup {K : PySem.W.Frag} {C : Addr} {H : Hp} {p l : Addr} {us : List WU} {i : Nat} {ua ca rl dl : Addr} (h : RowSt K C H p l us i ua ca rl dl) : NotTup [ca, rl, dl, l] H := by
  obtain ⟨_, ⟨cs, h2, _⟩, ⟨rs, h3, _⟩, ⟨kvs, h4, _⟩, h5, _, _, _⟩ := h
  intro x hx
  rcases List.mem_cons.mp hx with rfl | hx
  · exact notTup_l h2 _ (by simp)
  rcases List.mem_cons.mp hx with rfl | hx
  · exact notTup_l h3 _ (by simp)
  rcases List.mem_cons.mp hx with rfl | hx
  · exact notTup_d h4 _ (by simp)
  · rw [List.mem_singleton.mp hx]
    exact notTup_l h5 _ (by simp)
section
variable {P : Program} {w : World} {K : PySem.W.Frag} {mg : Str → Option Value} {base : Heap}
def spRowInit (K : PySem.W.Frag) (C : Addr) : Sp := fun vs H Q _ => ∃ p ul dx us, ∃ uv : List V, vs = [.ref p, .int 4, .int 4, .ref ul] ∧ H p = some (.ins C dx []) ∧ SqL K H ul uv ∧ ul ≠ p ∧ uv.length = us.length ∧
  (∀ (j : Nat) (x : WU), us[j]? = some x → ∃ a : Addr, uv[j]? = some (V.ref a) ∧ UnitAt K H a x) ∧ 1 ≤ us.length ∧ us.length ≤ 24 ∧ Laid us ∧ (us.map WU.tick).Nodup ∧ ∀ H', RowAt K C H' p us → Kept [p] H H' → Q .non H'
theorem units_kept {H H' : Hp} {ps : List Addr} {uv : List V} {us : List WU} (h : ∀ (j : Nat) (x : WU), us[j]? = some x → ∃ a : Addr, uv[j]? = some (V.ref a) ∧ UnitAt K H a x) (k : Kept ps H H') (n : NotTup ps H) :
    ∀ (j : Nat) (x : WU), us[j]? = some x → ∃ a : Addr, uv[j]? = some (V.ref a) ∧ UnitAt K H' a x := fun j x hj =>
  let ⟨a, e, u⟩ := h j x hj
  ⟨a, e, u.kept k n⟩
theorem noTup0 {H : Hp} : NotTup [] H := fun x hx => nomatch hx
theorem ok_Row_init (T : Txt w K mg) : MkAt P w K mg base 9 "Row" ["self", "wide", "tall", "units"] (spRowInit K (ga K "Row")) := by
  have g_is_side : FnAt P w K mg base 2 _ _ spSide := ok_is_side T
  have g_take : MtAt P w K mg base 8 _ _ _ (spTake K (ga K "Row")) := ok_take T
  refine MkAt.of T.g_Row T.i_Row sc_Row___init__ (fun _ _ _ _ _ _ us hl => match us, hl with | [_, _, _, _], _ => rfl) (fun vs H Q E h => ?_) (fun cdv A outer s H vs Q E hr h => ?_)
  · obtain ⟨p, ul, dx, us, uv, rfl, _⟩ := h
    rfl
  · obtain ⟨p, ul, dx, us, uv, rfl, hp, hl, nlp, hlen, hun, h1, h24, hLaid, hnd, q⟩ := h
    refine ⟨_, (pss_cons (ps_if (PW.pt (pw_or (pt_not (pt_val (pe_cal g_is_side hr (by decide) (pa_cons (pv 1) pa_nil)))) (pw_or (pt_not (pt_val (pe_cal g_is_side hr (by decide) (pa_cons (pv 2) pa_nil)))) (pw_or1 (pt_not (pt_val (pe_callB call_isiT (by rfl) T.z_isinstance bb_isinstance (pa_cons (pv 3) (pa_cons (pe_tup (pa_cons (pe_bty T.z_list bb_list) (pa_cons (pe_bty T.z_tuple bb_tuple) pa_nil))) pa_nil))))))))) (pss_one ps_never) pss_nil)
      (pss_cons (ps_if (pt_not (pt_chain op_le op_le pe_int (pe_callB (callK_len K) (by rfl) T.z_len PySem.boot_len (pa_cons (pv 3) pa_nil)) (pe_gint T.c_MOST_UNITS))) (pss_one ps_never) pss_nil)
      (pss_cons (ps_fld (pv 0) (pv 1) rfl)
      (pss_cons (ps_fld (pv 0) (pv 2) rfl)
      (pss_cons (ps_fld (pv 0) (pe_callTy call_tuple_of (by rfl) T.z_tuple bb_tuple (pa_cons (pv 3) pa_nil)) rfl)
      (pss_cons (ps_fld (pv 0) (pe_lst pa_nil) rfl)
      (pss_cons (ps_fld (pv 0) (pe_lst pa_nil) rfl)
      (pss_cons (ps_fld (pv 0) pe_dnewK rfl)
      (pss_cons (ps_set (i := 4) sc_Row___init__.nd rfl (Or.inl rfl) (pe_op op_rep (pe_lst (pa_cons pe_non pa_nil)) (pe_gint T.c_SLOTS)))
      (pss_one (ps_for PassesOwn.never rfl (pi_enumT (by rfl) T.z_enumerate (pa_cons (pe_fld (pv 0) rfl) pa_nil)) (pg_tup2 K (pg_name (i := 5) sc_Row___init__.nd rfl (Or.inl rfl)) (pg_name (i := 6) sc_Row___init__.nd rfl (Or.inl rfl))) (pss_one (ps_expr (pe_mcal g_take hr (by decide) (pv 0) (pa_cons (pv 5) (pa_cons (pv 6) (pa_cons (pv 4) pa_nil))))))))))))))))), ?_⟩
    refine ⟨_, rfl, rfl, _, rfl, iteF ?_⟩
    refine ⟨_, rfl, rfl, _, rfl, iteF ?_⟩
    refine ⟨_, rfl, by rw [sizeLine_eq]; decide, fun t0 ht0 => ?_⟩
    have s1 : Same H (upd H t0 (.tup [.ty "list", .ty "tuple"])) := same_new ht0
    refine ⟨_, t0, _, _, _, true, rfl, upd_same, .cons (.ty _) (.cons (.ty _) .nil), tyL (K := K) (xs := uv) (Kept.lst (ps := []) s1.kept hl (by simp)), kit_l_lt, _, rfl, iteF ?_⟩
    have hl1 : SqL K (upd H t0 (.tup [.ty "list", .ty "tuple"])) ul uv := Kept.lst (ps := []) s1.kept hl (by simp)
    have hp1 := s1 _ _ hp
    have k1 : Kept [p] H (upd H t0 (.tup [.ty "list", .ty "tuple"])) := s1.kept
    have u1 := units_kept hun (ps := []) s1.kept noTup0
    generalize (upd H t0 (.tup [.ty "list", .ty "tuple"])) = H1 at k1 hl1 hp1 u1
    have nul : ul ∉ [p] := by simpa using nlp
    refine ⟨_, rfl, ul, _, rfl, .inl hl1, _, _, rfl, rfl, _, rfl, iteD (fun _ => ?_) fun z => absurd (by rw [hlen]; omega) z⟩
    refine ⟨_, _, rfl, rfl, _, rfl, iteN (fun _ => ?_) fun z => absurd (by rw [hlen]; omega) z⟩
    -- width
    refine ⟨_, rfl, _, rfl, p, _, dx, [], rfl, hp1, T.k_Row, T.n_Row_width, by show 0 < 1000; decide, ?_⟩
    obtain ⟨H2, e2, hp2, k2⟩ := fstep hp1 (m := "width") (v := .int 4) (by show ∀ g ∈ ([] : List Str), ¬ g = "width"; decide +kernel)
    rw [← e2]
    have hl2 := k2.lst hl1 nul
    have u2 := units_kept u1 k2 (notTup_i hp1)
    have K2 := k1.trans k2
    -- height
    refine ⟨_, rfl, _, rfl, p, _, dx, _, rfl, hp2, T.k_Row, T.n_Row_height, by show 1 < 1000; decide, ?_⟩
    obtain ⟨H3, e3, hp3, k3⟩ := fstep hp2 (m := "height") (v := .int 4) (by show ∀ g ∈ (["width"] : List Str), ¬ g = "height"; decide +kernel)
    rw [← e3]
    have hl3 := k3.lst hl2 nul
    have u3 := units_kept u2 k3 (notTup_i hp2)
    have K3 := K2.trans k3
    -- all_units
    refine ⟨_, rfl, ul, uv, rfl, .inl ⟨hl3, fun ua hua => ?_⟩⟩
    have nua := ins_ne hp3 hua
    have s4 : Same H3 (upd H3 ua (.tup uv)) := same_new hua
    have sq4 : SqT K (upd H3 ua (.tup uv)) ua uv := .of upd_same
    have u4 := units_kept u3 (ps := []) s4.kept noTup0
    have hp4 := s4 _ _ hp3
    generalize (upd H3 ua (.tup uv)) = H4 at s4 sq4 u4 hp4
    refine ⟨_, rfl, p, _, dx, _, rfl, hp4, T.k_Row, T.n_Row_all_units, by show 2 < 1000; decide, ?_⟩
    obtain ⟨H5, e5, hp5, k5⟩ := fstep hp4 (m := "all_units") (v := .ref ua) (by show ∀ g ∈ (["width", "height"] : List Str), ¬ g = "all_units"; decide +kernel)
    rw [← e5]
    have sq5 := k5.tupN sq4 (notTup_i hp4)
    have u5 := units_kept u4 k5 (notTup_i hp4)
    have K5 := (K3.trans s4.kept).trans k5
    -- all_choices
    refine ⟨line_le 0, fun ca hca => ?_⟩
    have nca := ins_ne hp5 hca
    have zca : H ca = none := K5.none hca nca
    have s6 : Same H5 (upd H5 ca (.lst [])) := same_new hca
    have eca6 : (upd H5 ca (.lst [])) ca = some (.lst []) := upd_same
    have sq6 := s6.tup sq5
    have u6 := units_kept u5 (ps := []) s6.kept noTup0
    have hp6 := s6 _ _ hp5
    generalize (upd H5 ca (.lst [])) = H6 at s6 eca6 sq6 u6 hp6
    refine ⟨_, rfl, p, _, dx, _, rfl, hp6, T.k_Row, T.n_Row_all_choices, by show 3 < 1000; decide, ?_⟩
    obtain ⟨H7, e7, hp7, k7⟩ := fstep hp6 (m := "all_choices") (v := .ref ca) (by show ∀ g ∈ (["width", "height", "all_units"] : List Str), ¬ g = "all_choices"; decide +kernel)
    rw [← e7]
    have sq7 := k7.tupN sq6 (notTup_i hp6)
    have eca7 := k7 _ _ eca6 nca
    have u7 := units_kept u6 k7 (notTup_i hp6)
    have K7 := (K5.trans s6.kept).trans k7
    -- all_reads
    refine ⟨line_le 0, fun rl hrl => ?_⟩
    have nrl := ins_ne hp7 hrl
    have zrl : H rl = none := K7.none hrl nrl
    have s8 : Same H7 (upd H7 rl (.lst [])) := same_new hrl
    have erl8 : (upd H7 rl (.lst [])) rl = some (.lst []) := upd_same
    have n1 : ca ≠ rl := ne_of_none eca7 hrl
    have eca8 := s8 _ _ eca7
    have sq8 := s8.tup sq7
    have u8 := units_kept u7 (ps := []) s8.kept noTup0
    have hp8 := s8 _ _ hp7
    generalize (upd H7 rl (.lst [])) = H8 at s8 erl8 eca8 sq8 u8 hp8
    refine ⟨_, rfl, p, _, dx, _, rfl, hp8, T.k_Row, T.n_Row_all_reads, by show 4 < 1000; decide, ?_⟩
    obtain ⟨H9, e9, hp9, k9⟩ := fstep hp8 (m := "all_reads") (v := .ref rl) (by show ∀ g ∈ (["width", "height", "all_units", "all_choices"] : List Str), ¬ g = "all_reads"; decide +kernel)
    rw [← e9]
    have sq9 := k9.tupN sq8 (notTup_i hp8)
    have eca9 := k9 _ _ eca8 nca
    have erl9 := k9 _ _ erl8 nrl
    have u9 := units_kept u8 k9 (notTup_i hp8)
    have K9 := (K7.trans s8.kept).trans k9
    -- places_by_tick
    intro dl hdl
    have ndl := ins_ne hp9 hdl
    have zdl : H dl = none := K9.none hdl ndl
    have s10 : Same H9 (upd H9 dl (.dK [])) := same_new hdl
    have edl10 : (upd H9 dl (.dK [])) dl = some (.dK []) := upd_same
    have eca10 := s10 _ _ eca9
    have erl10 := s10 _ _ erl9
    have sq10 := s10.tup sq9
    have u10 := units_kept u9 (ps := []) s10.kept noTup0
    have hp10 := s10 _ _ hp9
    generalize (upd H9 dl (.dK [])) = H10 at s10 edl10 eca10 erl10 sq10 u10 hp10
    refine ⟨_, rfl, p, _, dx, _, rfl, hp10, T.k_Row, T.n_Row_places_by_tick, by show 5 < 1000; decide, ?_⟩
    obtain ⟨H11, e11, hp11, k11⟩ := fstep hp10 (m := "places_by_tick") (v := .ref dl) (by show ∀ g ∈ (["width", "height", "all_units", "all_choices", "all_reads"] : List Str), ¬ g = "places_by_tick"; decide +kernel)
    rw [← e11]
    have sq11 := k11.tupN sq10 (notTup_i hp10)
    have eca11 := k11 _ _ eca10 nca
    have erl11 := k11 _ _ erl10 nrl
    have edl11 := k11 _ _ edl10 ndl
    have u11 := units_kept u10 k11 (notTup_i hp10)
    have K11 := (K9.trans s10.kept).trans k11
    -- laid
    refine ⟨line_le 1, fun l0 hl0 => ?_⟩
    have s12 : Same H11 (upd H11 l0 (.lst [.non])) := same_new hl0
    refine ⟨l0, 4, [.non], rfl, rfl, upd_same, by decide, by decide, line_le 4, fun l hl => ?_⟩
    have s13 : Same H11 (upd (upd H11 l0 (.lst [.non])) l (.lst (List.replicate (Int.toNat 4) [V.non]).flatten)) := s12.new hl
    have el13 : (upd (upd H11 l0 (.lst [.non])) l (.lst (List.replicate (Int.toNat 4) [V.non]).flatten)) l = some (.lst ((laidN us 0).map oV)) := by rw [upd_same]; rfl
    have hl11 : H11 l = none := by
      cases e : H11 l with
      | none => rfl
      | some o => rw [s12 _ _ e] at hl; cases hl
    have zl : H l = none := K11.none hl11 (ins_ne hp11 hl11)
    have n2 : ca ≠ l := ne_of_none eca11 hl11
    have n3 : rl ≠ l := ne_of_none erl11 hl11
    have hp13 := s13 _ _ hp11
    have eca13 := s13 _ _ eca11
    have erl13 := s13 _ _ erl11
    have edl13 := s13 _ _ edl11
    have sq13 := s13.tup sq11
    have u13 := units_kept u11 (ps := []) s13.kept noTup0
    have K13 := K11.trans s13.kept
    generalize (upd (upd H11 l0 (.lst [.non])) l (.lst (List.replicate (Int.toNat 4) [V.non]).flatten)) = H13 at s13 el13 hp13 eca13 erl13 edl13 sq13 u13 K13
    have hp14 : H13 p = some (.ins (ga K "Row") dx (rowf ua ca rl dl)) := hp13
    refine ⟨_, rfl, p, _, dx, _, _, rfl, hp14, T.k_Row, T.n_Row_all_units, rf_units, ua, uv, rfl, sq13, ?_⟩
    refine for_it walk_enumT (fun i σ H' => ∃ x y, σ = [some (.ref p), some (.int 4), some (.int 4), some (.ref ul), some (.ref l), x, y] ∧ RowSt K (ga K "Row") H' p l us i ua ca rl dl ∧ Kept [p] H H' ∧ SqT K H' ua uv ∧
        (∀ (j : Nat) (x : WU), us[j]? = some x → ∃ a : Addr, uv[j]? = some (V.ref a) ∧ UnitAt K H' a x))
      ⟨_, _, rfl, ⟨⟨dx, hp14⟩, ⟨[], eca13, rfl⟩, ⟨[], erl13, rfl, fun j hj => absurd hj (Nat.not_lt_zero _)⟩, ⟨[], edl13, rfl⟩, el13, n1, n2, n3⟩, K13, sq13, u13⟩ (fun i σ H' _ h => by obtain ⟨_, _, _, _, _, e, _⟩ := h; exact e) ?_ ?_
    · rintro i y σ H0 H' hi ⟨x1, x2, rfl, st, kk, sq, un⟩ ⟨T1, y1, y2, rfl, nT, rfl, hy1, hy2⟩
      obtain rfl : V.int (i : Nat) = y1 := Option.some.inj hy1
      have hi2 : i < us.length := by omega
      obtain ⟨a, ea, ua1⟩ := un i us[i] (by simp [hi2])
      obtain rfl : V.ref a = y2 := Option.some.inj (ea.symm.trans hy2)
      refine ⟨T1, _, rfl, .of upd_same, rfl, _, _, rfl, _, _, rfl, rfl, ?_⟩
      have s14 : Same H0 (upd H0 T1 (.tup [nV i, .ref a])) := same_new nT
      generalize (upd H0 T1 (.tup [nV i, .ref a])) = H14 at s14
      have st14 := st.same s14
      have un14 := units_kept un (ps := []) s14.kept noTup0
      obtain ⟨dx2, hp15⟩ := st14.ob
      refine ⟨_, rfl, p, dx2, _, rfl, hp15, rf_no (by decide +kernel), _, rfl, _, rfl, _, rfl, p, i, a, l, us, ua, ca, rl, dl, us[i], rfl, st14, by simp [hi2], ua1.same s14, by omega, hLaid i _ (by simp [hi2]), ?_, fun H15 st15 k15 => ?_⟩
      · intro z hz e
        obtain ⟨j, hj, ej⟩ := List.mem_take_iff_getElem.mp hz
        have := (List.pairwise_iff_getElem.mp hnd) j i (by rw [List.length_map]; omega) (by rw [List.length_map]; exact hi2) (by omega)
        rw [List.getElem_map, List.getElem_map] at this
        exact this (by rw [ej]; exact e)
      · refine ⟨_, _, rfl, st15, Kept.over (kk.trans s14.kept) k15 (fun z hz => ?_), k15.tupN (s14.tup sq) st14.notTup, units_kept un14 k15 st14.notTup⟩
        rcases List.mem_cons.mp hz with rfl | hz
        · exact zca
        rcases List.mem_cons.mp hz with rfl | hz
        · exact zrl
        rcases List.mem_cons.mp hz with rfl | hz
        · exact zdl
        · rw [List.mem_singleton.mp hz]
          exact zl
    · rintro σ H' ⟨x1, x2, rfl, st, kk, sq, un⟩
      obtain ⟨dx2, hp15⟩ := st.ob
      obtain ⟨rs, e1, e2, e3⟩ := st.frl
      exact q H' ⟨dx2, ua, ca, rl, dl, uv, rs, hp15, sq, hlen, un, e1, by rw [e2, hlen], fun j hj => e3 j (by omega)⟩ kk
end
end K36
namespace K36
open L2 PySem
open PySem.Spec PyProof.Rows
/-! ### webs, in plain numbers -/
structure Web (us : List WU) : Prop where
  one : 1 ≤ us.length
  few : us.length ≤ 24
  ok : ∀ (i : Nat) (x : WU), us[i]? = some x → x.Ok
  laid : Laid us
  nd : (us.map WU.tick).Nodup
theorem laidN_lt (us : List WU) : ∀ (i s x : Nat), (laidN us i)[s]? = some (some x) → x < i
  | 0, s, x, h => by
    have h2 : some x ∈ List.replicate 4 (none : Option Nat) := List.mem_of_getElem? h
    exact absurd (List.eq_of_mem_replicate h2) (fun z => nomatch z)
  | i + 1, s, x, h => by
    unfold laidN at h
    split at h
    · rename_i u _
      unfold laidAfter at h
      split at h
      · exact Nat.lt_succ_of_lt (laidN_lt us i s x h)
      · rename_i wr _
        rw [List.getElem?_set] at h
        split at h
        · split at h
          · have e := Option.some.inj (Option.some.inj h)
            omega
          · cases h
        · exact Nat.lt_succ_of_lt (laidN_lt us i s x h)
    · exact Nat.lt_succ_of_lt (laidN_lt us i s x h)
theorem reads_lt {us : List WU} (W : Laid us) {i r : Nat} (h : r ∈ readsN us i) : r < i := by
  unfold readsN at h
  split at h
  · rename_i u hu
    obtain ⟨s, hs, rfl⟩ := List.mem_map.mp h
    obtain ⟨x, hx⟩ := W i u hu s hs
    rw [join_of hx]
    exact laidN_lt us i s x hx
  · exact absurd h (by simp)
theorem reads_few {us : List WU} (W : Web us) (i : Nat) : (readsN us i).length ≤ 2 := by
  unfold readsN
  split
  · rename_i u hu
    rw [List.length_map]
    exact (W.ok i u hu).few
  · simp
/-- what is reached from a by reads -/
inductive Reach (R : Nat → List Nat) (a : Nat) : Nat → Prop
  | refl : Reach R a a
  | step {j r : Nat} : Reach R a j → r ∈ R j → Reach R a r
def IsFirst (R : Nat → List Nat) (a m : Nat) : Prop := Reach R a m ∧ ∀ j, Reach R a j → m ≤ j
theorem Reach.le {R : Nat → List Nat} (hR : ∀ i, ∀ r ∈ R i, r < i) {a j : Nat} (h : Reach R a j) : j ≤ a := by
  induction h with
  | refl => exact Nat.le_refl _
  | step h hr k => exact Nat.le_trans (Nat.le_of_lt (hR _ _ hr)) k
theorem Reach.head {R : Nat → List Nat} {a b j : Nat} (hb : b ∈ R a) (h : Reach R b j) : Reach R a j := by
  induction h with
  | refl => exact .step .refl hb
  | step h hr k => exact .step k hr
theorem Reach.cases_head {R : Nat → List Nat} {a j : Nat} (h : Reach R a j) : j = a ∨ ∃ b ∈ R a, Reach R b j := by
  induction h with
  | refl => exact .inl rfl
  | @step j r h hr k =>
    rcases k with rfl | ⟨b, hb, k⟩
    · exact .inr ⟨r, hr, .refl⟩
    · exact .inr ⟨b, hb, .step k hr⟩
/-- the least that is reached -/
theorem first_ex (R : Nat → List Nat) (a : Nat) : ∃ m, IsFirst R a m := by
  have main : ∀ n, (∃ j, j ≤ n ∧ Reach R a j) → ∃ m, IsFirst R a m := by
    intro n
    induction n with
    | zero =>
      rintro ⟨j, hj, h⟩
      obtain rfl : j = 0 := by omega
      exact ⟨0, h, fun _ _ => Nat.zero_le _⟩
    | succ n ih =>
      rintro ⟨j, hj, h⟩
      by_cases e : ∃ j, j ≤ n ∧ Reach R a j
      · exact ih e
      · refine ⟨j, h, fun i hi => ?_⟩
        by_cases hin : i ≤ n
        · exact absurd ⟨i, hin, hi⟩ e
        · omega
  exact main a ⟨a, Nat.le_refl _, .refl⟩
noncomputable def first (R : Nat → List Nat) (a : Nat) : Nat := (first_ex R a).choose
theorem first_is (R : Nat → List Nat) (a : Nat) : IsFirst R a (first R a) := (first_ex R a).choose_spec
theorem IsFirst.eq {R : Nat → List Nat} {a m n : Nat} (h : IsFirst R a m) (k : IsFirst R a n) : m = n := Nat.le_antisymm (h.2 _ k.1) (k.2 _ h.1)
theorem first_ge {R : Nat → List Nat} (hR : ∀ i, ∀ r ∈ R i, r < i) {a s : Nat} : s ≤ first R a ↔ s ≤ a ∧ ∀ r ∈ R a, s ≤ first R r := by
  constructor
  · intro h
    refine ⟨Nat.le_trans h ((first_is R a).2 _ .refl), fun r hr => Nat.le_trans h ((first_is R a).2 _ ((first_is R r).1.head hr))⟩
  · rintro ⟨h1, h2⟩
    rcases (first_is R a).1.cases_head with e | ⟨b, hb, k⟩
    · rw [e]
      exact h1
    · exact Nat.le_trans (h2 b hb) ((first_is R b).2 _ k)
theorem nodup_le : ∀ (n : Nat) (xs : List Nat), xs.Nodup → (∀ x ∈ xs, x < n) → xs.length ≤ n
  | 0, xs, _, h => by
    cases xs with
    | nil => exact Nat.le_refl _
    | cons x r => exact absurd (h x (by simp)) (Nat.not_lt_zero _)
  | n + 1, xs, hn, h => by
    by_cases hm : n ∈ xs
    · have h1 := List.length_erase_of_mem hm
      have h2 := nodup_le n (xs.erase n) (hn.erase n) (fun x hx => by
        have hx2 := (List.Nodup.mem_erase_iff hn).mp hx
        have := h x hx2.2
        omega)
      omega
    · have h2 := nodup_le n xs hn (fun x hx => by
        have := h x hx
        have : x ≠ n := fun z => hm (z ▸ hx)
        omega)
      omega
/-! ### a dict as a set of numbers -/
abbrev nK (n : Nat) : Key := Sum.inl ((n : Nat) : Int)
def KS (kvs : List (Key × V)) (S : Nat → Prop) : Prop := ∃ ks : List Nat, kvs.map (·.1) = ks.map nK ∧ ks.Nodup ∧ ∀ j, j ∈ ks ↔ S j
theorem nK_inj {a b : Nat} (h : nK a = nK b) : a = b := by
  have := Sum.inl.inj h
  omega
theorem mem_nK {ks : List Nat} {x : Nat} : nK x ∈ ks.map nK ↔ x ∈ ks := by
  constructor
  · intro h
    obtain ⟨y, hy, e⟩ := List.mem_map.mp h
    rw [← nK_inj e]
    exact hy
  · exact fun h => List.mem_map.mpr ⟨x, h, rfl⟩
theorem valV_some {kvs : List (Key × V)} {k : Key} (h : k ∈ kvs.map (·.1)) : (valV kvs k).isSome = true := by
  rw [← valV_any, List.any_eq_true]
  obtain ⟨p, hp, e⟩ := List.mem_map.mp h
  exact ⟨p, hp, decide_eq_true e⟩
theorem KS.has {kvs : List (Key × V)} {S : Nat → Prop} (h : KS kvs S) {x : Nat} : (valV kvs (nK x)).isSome = true ↔ S x := by
  obtain ⟨ks, h1, _, h3⟩ := h
  rw [← h3, ← mem_nK, ← h1]
  constructor
  · intro e
    cases e2 : valV kvs (nK x) with
    | none => rw [e2] at e; cases e
    | some v => exact valV_in e2
  · exact valV_some
theorem KS.nil : KS [] (fun _ => False) := ⟨[], rfl, by simp, by simp⟩
theorem KS.put {kvs : List (Key × V)} {S : Nat → Prop} (h : KS kvs S) (x : Nat) (v : V) : KS (putK kvs (nK x) v) (fun j => S j ∨ j = x) := by
  have hx := h.has (x := x)
  obtain ⟨ks, h1, h2, h3⟩ := h
  by_cases e : (valV kvs (nK x)).isSome = true
  · refine ⟨ks, ?_, h2, fun j => ?_⟩
    · unfold putK
      rw [valV_any, if_pos e, List.map_map, ← h1]
      apply List.map_congr_left
      intro p _
      show (if p.1 = nK x then (p.1, v) else p).1 = p.1
      split <;> rfl
    · rw [h3]
      constructor
      · exact .inl
      · rintro (h | rfl)
        · exact h
        · exact hx.mp e
  · have hn : valV kvs (nK x) = none := by
      cases e2 : valV kvs (nK x) with
      | none => rfl
      | some v => rw [e2] at e; exact absurd rfl e
    have nx : x ∉ ks := fun z => e (hx.mpr ((h3 x).mp z))
    refine ⟨ks ++ [x], ?_, ?_, fun j => ?_⟩
    · rw [putK_new _ hn, List.map_append, List.map_append, h1]
      rfl
    · rw [List.nodup_append]
      refine ⟨h2, by simp, fun a ha b hb => ?_⟩
      rw [List.mem_singleton.mp hb]
      exact fun z => nx (z ▸ ha)
    · rw [List.mem_append, h3, List.mem_singleton]
theorem KS.merge {more : List (Key × V)} {ks : List Nat} : ∀ {kvs : List (Key × V)} {S : Nat → Prop}, KS kvs S → more.map (·.1) = ks.map nK → KS (mergeK kvs more) (fun j => S j ∨ j ∈ ks) := by
  induction ks generalizing more with
  | nil =>
    intro kvs S h e
    have : more = [] := by simpa using e
    subst this
    obtain ⟨ks, h1, h2, h3⟩ := h
    exact ⟨ks, h1, h2, fun j => by rw [h3]; simp⟩
  | cons x r ih =>
    intro kvs S h e
    cases more with
    | nil => cases e
    | cons p m =>
      obtain ⟨k, v⟩ := p
      have e1 : k = nK x := (List.cons.inj e).1
      have e2 : m.map (·.1) = r.map nK := (List.cons.inj e).2
      subst e1
      obtain ⟨ks, h1, h2, h3⟩ := ih (h.put x v) e2
      refine ⟨ks, h1, h2, fun j => ?_⟩
      rw [h3]
      show ((S j ∨ j = x) ∨ j ∈ r) ↔ (S j ∨ j ∈ x :: r)
      rw [List.mem_cons]
      constructor
      · rintro ((a | b) | c)
        · exact .inl a
        · exact .inr (.inl b)
        · exact .inr (.inr c)
      · rintro (a | b | c)
        · exact .inl (.inl a)
        · exact .inl (.inr b)
        · exact .inr c
theorem KS.len {kvs : List (Key × V)} {S : Nat → Prop} (h : KS kvs S) {n : Nat} (b : ∀ j, S j → j < n) : kvs.length ≤ n := by
  obtain ⟨ks, h1, h2, h3⟩ := h
  have e : kvs.length = ks.length := by rw [← List.length_map (f := (·.1)), h1, List.length_map]
  rw [e]
  exact nodup_le n ks h2 fun x hx => b x ((h3 x).mp hx)
theorem KS.iff {kvs : List (Key × V)} {S S' : Nat → Prop} (h : KS kvs S) (e : ∀ j, S j ↔ S' j) : KS kvs S' := by
  obtain ⟨ks, h1, h2, h3⟩ := h
  exact ⟨ks, h1, h2, fun j => (h3 j).trans (e j)⟩
/-- a dict comprehension over a walk -/
theorem dc_it {J : It} {n : Nat} {G : Hp → Prop} {Y : Nat → Hp → V → Hp → Prop} (w : Walk J n G Y) {g : TG} {tt : TT} {tk tv : TE} {vs : List Nat} {σ : L2.St} {H1 : Hp} {D : Addr} {Qd : Hp → Prop} (Pv : Nat → Hp → Prop) (h0 : Pv 0 (upd H1 D (.dK []))) (hG : ∀ i H, i ≤ n → Pv i H → G H)
    (hs : ∀ i x H H', i < n → Pv i H → Y i H x H' → g x (wipe σ vs) H' fun σ2 H2 => wipe σ2 vs = wipe σ vs ∧ tt σ2 H2 fun b H3 =>
      if b = true then tk σ2 H3 fun y H4 => tv σ2 H4 fun z H5 => ∃ kvs k, y = kV k ∧ H5 D = some (.dK kvs) ∧ kvs.length < sizeLine ∧ Pv (i + 1) (upd H5 D (.dK (putK kvs k z))) else Pv (i + 1) H3) (hd : ∀ H, Pv n H → Qd H) :
    ∃ W : Nat → Nat → Hp → Prop, (∃ m, W 0 m (upd H1 D (.dK []))) ∧ ∀ i m H, W i m H →
      (J.stop i H ∧ Qd H) ∨ (J.go i H ∧ ∃ Nx : Hp → Prop, (∀ H', Nx H' → ∃ m', m' < m ∧ W (i + 1) m' H') ∧ ∀ x H', J.yld i H x H' → g x (wipe σ vs) H' fun σ2 H2 => wipe σ2 vs = wipe σ vs ∧ tt σ2 H2 fun b H3 =>
        if b = true then tk σ2 H3 fun y H4 => tv σ2 H4 fun z H5 => ∃ kvs k, y = kV k ∧ H5 D = some (.dK kvs) ∧ kvs.length < sizeLine ∧ Nx (upd H5 D (.dK (putK kvs k z))) else Nx H3) := by
  refine ⟨fun i m H => m = n - i ∧ i ≤ n ∧ Pv i H, ⟨n, by simp, Nat.zero_le _, h0⟩, ?_⟩
  rintro i m H ⟨rfl, hi, p⟩
  have q := hG i H hi p
  by_cases hlt : i < n
  · refine .inr ⟨w.goes i H hlt q, Pv (i + 1), fun H' p' => ⟨n - (i + 1), by omega, rfl, hlt, p'⟩, fun x H' y => hs i x H H' hlt p (w.yields i H x H' hlt q y)⟩
  · have e : i = n := by omega
    subst e
    exact .inl ⟨w.stops H q, hd H p⟩
section
variable {P : Program} {w : World} {K : PySem.W.Frag} {mg : Str → Option Value} {base : Heap}
/-! ### a row's units and reads -/
def UnitsAt (K : PySem.W.Frag) (H : Hp) (ua : Addr) (us : List WU) : Prop := ∃ uv : List V, SqT K H ua uv ∧ uv.length = us.length ∧ ∀ (j : Nat) (x : WU), us[j]? = some x → ∃ a : Addr, uv[j]? = some (V.ref a) ∧ UnitAt K H a x
def spUnits (K : PySem.W.Frag) (C : Addr) : Sp := fun vs H Q _ => ∃ p us, vs = [.ref p] ∧ RowAt K C H p us ∧ ∀ ua, UnitsAt K H ua us → Q (.ref ua) H
theorem ok_units (T : Txt w K mg) : MtAt P w K mg base 1 "Row" "units" ["self"] (spUnits K (ga K "Row")) := by
  refine MtAt.of T.k_Row T.m_Row_units sc_Row_units (fun _ _ _ _ _ _ us hl => match us, hl with | [_], _ => rfl) (fun vs H Q E h => ?_) (fun cdv A outer s H vs Q E hr h => ?_)
  · obtain ⟨p, us, rfl, _⟩ := h
    rfl
  · obtain ⟨p, us, rfl, h, q⟩ := h
    refine ⟨_, (pss_one (ps_ret (pe_fld (pv 0) rfl))), ?_⟩
    obtain ⟨dx, ua, ca, rl, dl, uv, rs, h1, h2, h3, h4, h5, h6, h7⟩ := h.ex
    exact ⟨_, rfl, p, _, dx, _, _, rfl, h1, T.k_Row, T.n_Row_all_units, rf_units, q ua ⟨uv, h2, h3, h4⟩⟩
def spReadsAt (K : PySem.W.Frag) (C : Addr) : Sp := fun vs H Q _ => ∃ p us i, vs = [.ref p, nV i] ∧ RowAt K C H p us ∧ i < us.length ∧ ∀ a, SqT K H a ((readsN us i).map nV) → Q (.ref a) H
theorem ok_reads_at (T : Txt w K mg) : MtAt P w K mg base 1 "Row" "reads_at" ["self", "at"] (spReadsAt K (ga K "Row")) := by
  refine MtAt.of T.k_Row T.m_Row_reads_at sc_Row_reads_at (fun _ _ _ _ _ _ us hl => match us, hl with | [_, _], _ => rfl) (fun vs H Q E h => ?_) (fun cdv A outer s H vs Q E hr h => ?_)
  · obtain ⟨p, us, i, rfl, _⟩ := h
    rfl
  · obtain ⟨p, us, i, rfl, h, hi, q⟩ := h
    refine ⟨_, (pss_one (ps_ret (pe_ix (ixK_list K) (pe_fld (pv 0) rfl) (pv 1) (fun _ _ => rfl)))), ?_⟩
    obtain ⟨dx, ua, ca, rl, dl, uv, rs, h1, h2, h3, h4, h5, h6, h7⟩ := h.ex
    obtain ⟨a, e, t⟩ := h7 i hi
    exact ⟨_, rfl, p, _, dx, _, _, rfl, h1, T.k_Row, T.n_Row_all_reads, rf_reads, _, rfl, rl, rs, i, .ref a, rfl, rfl, .of h5, atI_nat e, q a t⟩
end
end K36
namespace K36
open L2 PySem
open PySem.Spec PyProof.Rows
theorem eqvAll_ints : ∀ ns ms : List Int, PyData.eqvAll (ns.map PyData.int) (ms.map PyData.int) = decide (ns = ms)
  | [], [] => by simp [PyData.eqvAll]
  | [], _ :: _ => by simp [PyData.eqvAll]
  | _ :: _, [] => by simp [PyData.eqvAll]
  | n :: r, k :: q => by
    simp only [List.map_cons, PyData.eqvAll, PyData.eqv, eqvAll_ints r q]
    by_cases h : n = k <;> simp [h]
theorem eqv_ints (ns ms : List Int) : PyData.eqv (.list (ns.map PyData.int)) (.list (ms.map PyData.int)) = decide (ns = ms) := by
  rw [PyData.eqv]
  exact eqvAll_ints ns ms
theorem line_le' {n : Nat} (h : n ≤ 1000) : n ≤ sizeLine := Nat.le_of_lt (small1000 h)
/-- the numbers' worth: a place is worth more than all that it reads -/
def worth : List Nat → Nat
  | [] => 0
  | x :: r => (2 ^ (x + 1) - 1) + worth r
theorem worth_app : ∀ xs ys : List Nat, worth (xs ++ ys) = worth xs + worth ys
  | [], ys => (Nat.zero_add _).symm
  | x :: r, ys => by
    show _ + worth (r ++ ys) = _ + worth r + worth ys
    rw [worth_app r ys, Nat.add_assoc]
theorem worth_len : ∀ xs : List Nat, xs.length ≤ worth xs
  | [] => Nat.le_refl _
  | x :: r => by
    have h := worth_len r
    have h2 : 2 ≤ 2 ^ (x + 1) := by
      rw [Nat.pow_succ]
      have := Nat.one_le_two_pow (n := x)
      omega
    show r.length + 1 ≤ (2 ^ (x + 1) - 1) + worth r
    omega
theorem worth_few {xs : List Nat} {y : Nat} (hl : xs.length ≤ 2) (h : ∀ r ∈ xs, r < y) : worth xs < 2 ^ (y + 1) - 1 := by
  have one : ∀ r, r < y → 2 ^ (r + 1) ≤ 2 ^ y := fun r hr => Nat.pow_le_pow_right (by decide) hr
  have e : 2 ^ (y + 1) = 2 * 2 ^ y := by rw [Nat.pow_succ, Nat.mul_comm]
  have p : 1 ≤ 2 ^ y := Nat.one_le_two_pow
  match xs, hl, h with
  | [], _, _ =>
    show 0 < _
    omega
  | [a], _, h =>
    have := one a (h a (by simp))
    show (2 ^ (a + 1) - 1) + 0 < _
    omega
  | [a, b], _, h =>
    have h1 := one a (h a (by simp))
    have h2 := one b (h b (by simp))
    have h3 := Nat.one_le_two_pow (n := a + 1)
    have h4 := Nat.one_le_two_pow (n := b + 1)
    show (2 ^ (a + 1) - 1) + ((2 ^ (b + 1) - 1) + 0) < _
    omega
/-- the search's state: known, line -/
structure CInv (R : Nat → List Nat) (a : Nat) (S : Nat → Prop) (L : List Nat) : Prop where
  self : S a
  reach : ∀ j, S j → Reach R a j
  done : ∀ j, S j → j ∈ L ∨ ∀ r ∈ R j, S r
  line : ∀ j ∈ L, S j
theorem CInv.step {R : Nat → List Nat} {a y : Nat} {S : Nat → Prop} {L F : List Nat} (h : CInv R a S (L ++ [y])) (hF : ∀ r, r ∈ F ↔ r ∈ R y ∧ ¬ S r) : CInv R a (fun j => S j ∨ j ∈ F) (L ++ F) := by
  have sy : S y := h.line y (by simp)
  refine ⟨.inl h.self, fun j hj => ?_, fun j hj => ?_, fun j hj => ?_⟩
  · rcases hj with hj | hj
    · exact h.reach j hj
    · exact .step (h.reach y sy) ((hF j).mp hj).1
  · rcases hj with hj | hj
    · rcases h.done j hj with k | k
      · rcases List.mem_append.mp k with k | k
        · exact .inl (by simp [k])
        · obtain rfl : j = y := by simpa using k
          refine .inr fun r hr => ?_
          by_cases e : S r
          · exact .inl e
          · exact .inr ((hF r).mpr ⟨hr, e⟩)
      · exact .inr fun r hr => .inl (k r hr)
    · exact .inl (by simp [hj])
  · rcases List.mem_append.mp hj with hj | hj
    · exact .inl (h.line j (by simp [hj]))
    · exact .inr hj
theorem CInv.all {R : Nat → List Nat} {a : Nat} {S : Nat → Prop} (h : CInv R a S []) {j : Nat} (k : Reach R a j) : S j := by
  induction k with
  | refl => exact h.self
  | step k hr ih =>
    rcases h.done _ ih with z | z
    · exact absurd z (by simp)
    · exact z _ hr
section
variable {P : Program} {w : World} {K : PySem.W.Frag} {mg : Str → Option Value} {base : Heap}
def spComeTo (K : PySem.W.Frag) (C : Addr) : Sp := fun vs H Q _ => ∃ p l h us a, vs = [.ref p, .ref l, .ref h] ∧ RowAt K C H p us ∧ Web us ∧ SqL K H l [nV a] ∧ a < us.length ∧ SqT K H h [] ∧
  ∀ q H' (ys : List Int), Same H H' → H' q = some (.lst (ys.map V.int)) → ys[0]? = some ((first (readsN us) a : Nat) : Int) → Q (.ref q) H'
theorem ok_come_to (T : Txt w K mg) : FnAt P w K mg base 2 "come_to" ["row", "places", "held"] (spComeTo K (ga K "Row")) := by
  have g_reads_at : MtAt P w K mg base 1 _ _ _ (spReadsAt K (ga K "Row")) := ok_reads_at T
  refine FnAt.of T.f_come_to sc_come_to (fun _ _ _ _ _ _ us hl => match us, hl with | [_, _, _], _ => rfl) (fun vs H Q E h => ?_) (fun cdv A outer s H vs Q E hr h => ?_)
  · obtain ⟨p, l, h, us, a, rfl, _⟩ := h
    rfl
  · obtain ⟨p, l, h, us, a, rfl, hrow, W, hl, ha, hh, q⟩ := h
    have hu := hu_of hr
    refine ⟨_, (pss_cons (ps_setLc (i := 3) (own := [("place", 6)]) rfl sc_come_to.nd rfl rfl (sw_true rfl rfl rfl (by decide +kernel)) (pi_list (pv 1)) (blkOk_by (own := [("place", 6)]) (N := N_come_to) (sc := defScope s_come_to) (by decide +kernel)) (fun _ _ _ _ _ => (pg_name (i := 6) sc_come_to.nd rfl (Or.inl rfl))) (fun _ _ _ _ _ => (pts_one (pt_cmpR (opK_notIn K) (pv 6) (pv 2) (by rfl)))) (fun _ _ _ _ _ => (pv 6)))
      (pss_cons (ps_set (i := 4) sc_come_to.nd rfl (Or.inr rfl) (pe_dc (own := [("place", 6)]) rfl sc_come_to.nd (pi_list (pv 3)) (blkOk_by (own := [("place", 6)]) (N := N_come_to) (sc := defScope s_come_to) (by decide +kernel)) (fun _ _ _ _ _ => (pg_name (i := 6) sc_come_to.nd rfl (Or.inl rfl))) (fun _ _ _ _ _ => pts_nil) (fun _ _ _ _ _ => (pv 6)) (fun _ _ _ _ _ => pe_bl)))
      (pss_cons (ps_while PassesOwn.never (pt_cmpR (op_neD hr.units) (pv 3) (pe_lst pa_nil) (nomark _)) (pss_cons (ps_setLc (i := 5) (own := [("one", 7)]) rfl sc_come_to.nd rfl rfl (sw_true rfl rfl rfl (by decide +kernel)) (pi_tup (pe_mcal g_reads_at hr (by decide) (pv 0) (pa_cons (pe_bm0 PySem.F.plainAttrs_list PySem.F.slot_list_pop PySem.F.type_list_pop mt_pop (pv 3)) pa_nil))) (blkOk_by (own := [("one", 7)]) (N := N_come_to) (sc := defScope s_come_to) (by decide +kernel)) (fun _ _ _ _ _ => (pg_name (i := 7) sc_come_to.nd rfl (Or.inl rfl))) (fun _ _ _ _ _ => (pts_one (PW.pt (pw_and (pt_cmp (pc_dnotin hu (pv 7) (pv 4)) rfl) (pw_and1 (pt_cmpR (opK_notIn K) (pv 7) (pv 2) (by rfl))))))) (fun _ _ _ _ _ => (pv 7)))
      (pss_cons (ps_expr (pe_bm PySem.F.plainAttrs_dict PySem.F.slot_dict_update PySem.F.type_dict_update mt_update (pv 4) (pa_cons (pe_dc (own := [("one", 7)]) rfl sc_come_to.nd (pi_list (pv 5)) (blkOk_by (own := [("one", 7)]) (N := N_come_to) (sc := defScope s_come_to) (by decide +kernel)) (fun _ _ _ _ _ => (pg_name (i := 7) sc_come_to.nd rfl (Or.inl rfl))) (fun _ _ _ _ _ => pts_nil) (fun _ _ _ _ _ => (pv 7)) (fun _ _ _ _ _ => pe_bl)) pa_nil)))
      (pss_one (ps_expr (pe_bm PySem.F.plainAttrs_list PySem.F.slot_list_extend PySem.F.type_list_extend mt_extend (pv 3) (pa_cons (pv 5) pa_nil)))))))
      (pss_one (ps_ret (pe_callB (call_sortedDI rfl) (by rfl) T.z_sorted bb_sorted (pa_cons (pv 4) pa_nil))))))), ?_⟩
    have few := W.few
    have hRl : ∀ i, ∀ r ∈ readsN us i, r < i := fun i r h => reads_lt W.laid h
    refine ⟨_, rfl, l, rfl, ⟨_, hl⟩, fun ln hln => ?_⟩
    refine lc_it (walk_list (K := K) (xs := [nV a])) (fun i H' => Same H H' ∧ H' ln = some (.lst (([a].take i).map nV))) ⟨same_new hln, upd_same⟩ (fun i H' _ h => h.1.kept.lst (ps := []) hl (by simp)) ?_ ?_
    · rintro i x H' _ hi ⟨s1, d1⟩ ⟨rfl, hx⟩
      obtain ⟨rfl, rfl⟩ := one_at hx
      refine ⟨rfl, ⟨_, rfl, _, rfl, h, [], rfl, .inr (s1.tup hh), rfl, rfl, _, rfl, iteT ?_⟩⟩
      refine ⟨_, rfl, _, d1, small1000 (by show 0 ≤ 1000; decide), fun b o e => ?_, ?_⟩
      · rw [upd_ne (ne_of_none e hln)]
        exact s1 _ _ e
      · rw [upd_same]
        rfl
    rintro H1 ⟨s1, d1⟩
    have d1 : H1 ln = some (.lst [nV a]) := d1
    refine ⟨_, rfl, ln, rfl, ⟨_, .of d1⟩, fun kd hkd => ?_⟩
    have zkd : H kd = none := by
      cases e : H kd with
      | none => rfl
      | some o => rw [s1 _ _ e] at hkd; cases hkd
    refine dc_it (walk_list (K := K) (xs := [nV a])) (fun i H' => Same H1 H' ∧ ∃ kvs, H' kd = some (.dK kvs) ∧ KS kvs (fun j => j ∈ [a].take i)) ⟨same_new hkd, [], upd_same, KS.nil.iff (by simp)⟩ (fun i H' _ h => .of (h.1 _ _ d1)) ?_ ?_
    · rintro i x H' _ hi ⟨s2, kvs, d2, k2⟩ ⟨rfl, hx⟩
      obtain ⟨rfl, rfl⟩ := one_at hx
      refine ⟨rfl, t_yes (iteT ?_)⟩
      refine ⟨_, rfl, kvs, nK a, rfl, d2, Nat.lt_of_le_of_lt (k2.len (n := 24) (fun j hj => absurd hj (by simp))) (small1000 (by decide)), fun b o e => ?_, _, upd_same, (k2.put a _).iff fun j => by simp⟩
      rw [upd_ne (ne_of_none e hkd)]
      exact s2 _ _ e
    rintro H2 ⟨s2, kvs2, d2, k2⟩
    have ln2 := s2 _ _ d1
    have hne : ln ≠ kd := ne_of_none d1 hkd
    refine ⟨fun m σ H' => ∃ L kvs S f, σ = [some (.ref p), some (.ref l), some (.ref h), some (.ref ln), some (.ref kd), f, none, none] ∧ Same H H' ∧ H' ln = some (.lst (L.map nV)) ∧ H' kd = some (.dK kvs) ∧ KS kvs S ∧ CInv (readsN us) a S L ∧ worth L = m ∧ m ≤ 2 ^ 24 - 1,
      ⟨worth [a], [a], kvs2, _, none, rfl, s1.trans s2, ln2, d2, k2, ⟨by simp, fun j hj => ?_, fun j hj => .inl (by simpa using hj), fun j hj => by simpa using hj⟩, rfl, ?_⟩, ?_⟩
    · obtain rfl : j = a := by simpa using hj
      exact .refl
    · show (2 ^ (a + 1) - 1) + 0 ≤ 2 ^ 24 - 1
      have := Nat.pow_le_pow_right (n := 2) (by decide) (show a + 1 ≤ 24 by omega)
      omega
    rintro m σ H' ⟨L, kvs, S, f, rfl, s3, l3, d3, k3, inv, wm, m24⟩
    refine ⟨_, rfl, line_le 0, fun e0 he0 => ?_⟩
    have s4 : Same H' (upd H' e0 (.lst [])) := same_new he0
    have l4 := s4 _ _ l3
    have d4 := s4 _ _ d3
    have eL : L.map nV = (L.map fun n => ((n : Nat) : Int)).map V.int := by
      rw [List.map_map]
      rfl
    refine ⟨.list ((L.map fun n => ((n : Nat) : Int)).map PyData.int), .list (([] : List Int).map PyData.int), .lst (.of l4) (by rw [eL]; exact dp_ints _), .lst (.of upd_same) .nil, PySem.W.shaped_ints _, PySem.W.shaped_ints [], ?_⟩
    rw [eqv_ints]
    refine ⟨_, rfl, ?_⟩
    have hln' : ∀ {H2 : Hp}, Same H H2 → ∀ {o}, Same H (upd H2 ln o) := fun {H2} s {o} b x e => by
      rw [upd_ne (ne_of_none e hln)]
      exact s _ _ e
    have hkd' : ∀ {H2 : Hp}, Same H H2 → ∀ {o}, Same H (upd H2 kd o) := fun {H2} s {o} b x e => by
      rw [upd_ne (ne_of_none e zkd)]
      exact s _ _ e
    have bnd : ∀ j, S j → j < us.length := fun j hj => Nat.lt_of_le_of_lt ((inv.reach j hj).le hRl) ha
    have S4 := s3.trans s4
    generalize (upd H' e0 (.lst [])) = H4 at s4 l4 d4 S4
    rcases List.eq_nil_or_concat L with rfl | ⟨L0, y, rfl⟩
    · refine iteF ?_
      obtain ⟨ks, e1, e2, e3⟩ := k3
      refine ⟨_, rfl, kd, kvs, ks.map (fun n => ((n : Nat) : Int)), rfl, .inl d4, by rw [e1, List.map_map]; rfl, ?_, fun ys r hp hs hr => ?_⟩
      · rw [List.length_map]
        have := nodup_le us.length ks e2 fun x hx => bnd x ((e3 x).mp hx)
        omega
      · refine q r _ ys (S4.new hr) upd_same ?_
        have F := first_is (readsN us) a
        have hmem : ((first (readsN us) a : Nat) : Int) ∈ ys := hp.mem_iff.mpr (List.mem_map.mpr ⟨_, (e3 _).mpr (inv.all F.1), rfl⟩)
        cases ys with
        | nil => exact absurd hmem (by simp)
        | cons z zs =>
          have hz : z ∈ ks.map (fun n => ((n : Nat) : Int)) := hp.mem_iff.mp (by simp)
          obtain ⟨j, hj, rfl⟩ := List.mem_map.mp hz
          have h1 := F.2 j (inv.reach j ((e3 j).mp hj))
          have h2 : (j : Int) ≤ ((first (readsN us) a : Nat) : Int) := by
            rcases List.mem_cons.mp hmem with e | e
            · rw [e]
              exact Int.le_refl _
            · exact (List.pairwise_cons.mp hs).1 _ e
          have : j = first (readsN us) a := by omega
          rw [this]
          rfl
    · rw [show (!decide ((L0.concat y).map (fun n => ((n : Nat) : Int)) = ([] : List Int))) = true by simp]
      refine iteT ?_
      simp only [List.concat_eq_append] at *
      have sy : S y := inv.line y (by simp)
      have hy := bnd y sy
      refine ⟨fun σ' H'' => ∃ F f, σ' = [some (.ref p), some (.ref l), some (.ref h), some (.ref ln), some (.ref kd), f, none, none] ∧ Same H H'' ∧ H'' ln = some (.lst ((L0 ++ F).map nV)) ∧ (∃ kvs', H'' kd = some (.dK kvs') ∧ KS kvs' (fun j => S j ∨ j ∈ F)) ∧ (∀ r, r ∈ F ↔ r ∈ readsN us y ∧ ¬ S r) ∧ F.length ≤ 2, ?_, ?_⟩
      · rintro σ' H'' ⟨F, f2, rfl, s5, l5, ⟨kvs', d5, k5⟩, hF, hF2⟩
        have dec : worth (L0 ++ F) < m := by
          have w1 := worth_few hF2 (y := y) (fun r hr => hRl y r ((hF r).mp hr).1)
          rw [← wm, worth_app, worth_app]
          show _ < worth L0 + ((2 ^ (y + 1) - 1) + 0)
          omega
        exact ⟨_, dec, L0 ++ F, kvs', _, f2, rfl, s5, l5, d5, k5, inv.step hF, rfl, by omega⟩
      · have row4 := hrow.same S4
        obtain ⟨dx, ua, ca, rl, dl, uv, rs, h1, _⟩ := row4.ex
        refine ⟨_, rfl, p, dx, _, rfl, h1, rf_no (by decide +kernel), _, rfl, .inl ⟨rfl, _, .of l4⟩, ln, _, nV y, rfl, rfl, l4, by simp, ?_⟩
        have S5 : Same H (upd H4 ln (.lst ((L0 ++ [y]).map nV).dropLast)) := hln' S4
        have l5 : (upd H4 ln (.lst ((L0 ++ [y]).map nV).dropLast)) ln = some (.lst (L0.map nV)) := by
          rw [upd_same]
          simp
        have d5 : (upd H4 ln (.lst ((L0 ++ [y]).map nV).dropLast)) kd = some (.dK kvs) := by
          rw [upd_ne hne.symm]
          exact d4
        generalize (upd H4 ln (.lst ((L0 ++ [y]).map nV).dropLast)) = H5 at S5 l5 d5
        refine ⟨p, us, y, rfl, hrow.same S5, hy, fun ra hra => ?_⟩
        refine ⟨ra, rfl, ⟨_, hra⟩, fun D hD => ?_⟩
        refine lc_it (walk_tup (xs := (readsN us y).map nV)) (fun i H' => Same H5 H' ∧ H' D = some (.lst ((((readsN us y).take i).filter (fun r => !(valV kvs (nK r)).isSome)).map nV))) ⟨same_new hD, upd_same⟩ (fun i H' _ h => h.1.tup hra) ?_ ?_
        · rintro i x H6 _ hi ⟨s6, d6⟩ ⟨rfl, hx⟩
          obtain ⟨r, hr, rfl⟩ := mapGet hx
          refine ⟨rfl, ?_⟩
          refine ⟨_, rfl, _, rfl, kd, _, rfl, DGet.k (k := nK r) (s6 _ _ d5), _, rfl, ?_⟩
          have tk : (readsN us y).take (i + 1) = (readsN us y).take i ++ [r] := take_next hr
          cases e : (valV kvs (nK r)).isSome with
          | true =>
            refine iteF ?_
            refine ⟨s6, ?_⟩
            rw [tk, List.filter_append, List.filter_cons_of_neg (by rw [e]; decide), List.filter_nil, List.append_nil]
            exact d6
          | false =>
            refine iteT ?_
            refine ⟨_, rfl, _, rfl, h, [], rfl, .inr ((S5.trans s6).tup hh), rfl, rfl, _, rfl, iteT ?_⟩
            refine ⟨_, rfl, _, d6, ?_, fun b o e => ?_, ?_⟩
            · rw [List.length_map]
              have h1 := List.length_filter_le (fun r => !(valV kvs (nK r)).isSome) ((readsN us y).take i)
              have h2 := List.length_take_le i (readsN us y)
              have h3 := reads_few W y
              rw [List.length_take] at h1
              exact small1000 (by omega)
            · rw [upd_ne (ne_of_none e hD)]
              exact s6 _ _ e
            · rw [upd_same, tk, List.filter_append, List.filter_cons_of_pos (by rw [e]; decide), List.filter_nil, List.map_append]
              rfl
        rintro H6 ⟨s6, d6⟩
        rw [List.length_map, List.take_length] at d6
        generalize eF : (readsN us y).filter (fun r => !(valV kvs (nK r)).isSome) = F at d6
        have hF : ∀ r, r ∈ F ↔ r ∈ readsN us y ∧ ¬ S r := fun r => by
          rw [← eF, List.mem_filter, ← k3.has]
          simp
        have hF2 : F.length ≤ 2 := by
          rw [← eF]
          exact Nat.le_trans (List.length_filter_le _ _) (reads_few W y)
        have S6 := S5.trans s6
        have l6 := s6 _ _ l5
        have d6k := s6 _ _ d5
        refine ⟨_, rfl, .inr (.inr (.inl ⟨rfl, .inl ⟨_, d6k⟩⟩)), _, rfl, D, rfl, ⟨_, .of d6⟩, fun D2 hD2 => ?_⟩
        refine dc_it (walk_list (K := K) (xs := F.map nV)) (fun i H' => Same H6 H' ∧ ∃ kv, H' D2 = some (.dK kv) ∧ KS kv (fun j => j ∈ F.take i)) ⟨same_new hD2, [], upd_same, KS.nil.iff (by simp)⟩ (fun i H' _ h => .of (h.1 _ _ d6)) ?_ ?_
        · rintro i x H7 _ hi ⟨s7, kv, d7, k7⟩ ⟨rfl, hx⟩
          obtain ⟨r, hr, rfl⟩ := mapGet hx
          refine ⟨rfl, t_yes (iteT ?_)⟩
          refine ⟨_, rfl, kv, nK r, rfl, d7, Nat.lt_of_le_of_lt (k7.len (n := 24) (fun j hj => ?_)) (small1000 (by decide)), fun b o e => ?_, _, upd_same, (k7.put r _).iff fun j => ?_⟩
          · have := hRl y j ((hF j).mp (List.mem_of_mem_take hj)).1
            omega
          · rw [upd_ne (ne_of_none e hD2)]
            exact s7 _ _ e
          · rw [take_next hr, List.mem_append, List.mem_singleton]
        rintro H7 ⟨s7, kv, d7, k7⟩
        have S7 := S6.trans s7
        have l7 := s7 _ _ l6
        have d7k := s7 _ _ d6k
        have d7D := s7 _ _ d6
        have k7 : KS kv (fun j => j ∈ F) := k7.iff fun j => by
          rw [List.length_map, List.take_length]
        have hne2 : kd ≠ D2 := ne_of_none d6k hD2
        have c1 : kvs.length ≤ 24 := Nat.le_trans (k3.len bnd) (by omega)
        have c2 : kv.length ≤ 24 := k7.len fun j hj => by
          have := hRl y j ((hF j).mp hj).1
          omega
        have kM : KS (mergeK kvs kv) (fun j => S j ∨ j ∈ F) := by
          obtain ⟨ks, e1, e2, e3⟩ := k7
          exact (k3.merge e1).iff fun j => by rw [e3]
        have c3 : (mergeK kvs kv).length ≤ 24 := kM.len fun j hj => by
          rcases hj with hj | hj
          · have := bnd j hj
            omega
          · have := hRl y j ((hF j).mp hj).1
            omega
        refine ⟨kd, D2, kvs, kv, rfl, rfl, d7k, d7, hne2, line_le' (by omega), line_le' (by omega), ?_⟩
        have S8 : Same H (upd H7 kd (.dK (mergeK kvs kv))) := hkd' S7
        have l8 : (upd H7 kd (.dK (mergeK kvs kv))) ln = some (.lst (L0.map nV)) := by rw [upd_ne hne]; exact l7
        have d8 : (upd H7 kd (.dK (mergeK kvs kv))) kd = some (.dK (mergeK kvs kv)) := upd_same
        have f8 : (upd H7 kd (.dK (mergeK kvs kv))) D = some (.lst (F.map nV)) := by
          rw [upd_ne (ne_of d7D d7k (fun z => nomatch z))]
          exact d7D
        generalize (upd H7 kd (.dK (mergeK kvs kv))) = H8 at S8 l8 d8 f8
        have wl : (L0 ++ F).length ≤ 2 ^ 24 - 1 := by
          have w1 := worth_few hF2 (y := y) (fun r hr => hRl y r ((hF r).mp hr).1)
          have w2 := worth_len (L0 ++ F)
          have w3 : worth (L0 ++ [y]) = worth L0 + ((2 ^ (y + 1) - 1) + 0) := worth_app L0 [y]
          rw [worth_app] at w2
          omega
        refine ⟨_, rfl, .inl ⟨rfl, _, .of l8⟩, _, rfl, ln, D, _, _, rfl, rfl, l8, f8, ?_, ?_⟩
        · rw [List.length_map, List.length_map, ← List.length_append, sizeLine_eq]
          omega
        · refine ⟨F, _, rfl, hln' S8, ?_, ⟨_, by rw [upd_ne hne.symm]; exact d8, kM⟩, hF, hF2⟩
          rw [upd_same, List.map_append]
end
end K36
namespace K36
open L2 PySem
open PySem.Spec PyProof.Rows
/-! ### a def's promise with the def: for calls by keywords -/
def FnF (P : Program) (w : World) (K : PySem.W.Frag) (mg : Str → Option Value) (base : Heap) (k : Nat) (x : Str) (ps : List Str) (st : Stmt) (sp : Sp) : Prop :=
  mg x = some (.ref (ga K x)) ∧ ∃ fd, FnOk P w K mg base CX0 k (ga K x) fd ps sp ∧ Fun K x x st (ga K x) fd
def FnKw (P : Program) (w : World) (K : PySem.W.Frag) (mg : Str → Option Value) (base : Heap) (k : Nat) (x : Str) (ps ks : List Str) (g : List Value → List Value → List Value) (gV : List V → List V → List V) (sp : Sp) : Prop :=
  mg x = some (.ref (ga K x)) ∧ ∃ fd, FnOk P w K mg base CX0 k (ga K x) fd ps sp ∧ KBn K fd ps 0 ks g gV ∧ PySem.W.keepIn K (.ref (ga K x)) = true
section
variable {P : Program} {w : World} {K : PySem.W.Frag} {mg : Str → Option Value} {base : Heap}
theorem FnF.of {x : Str} {st : Stmt} {N ps : List Str} {k : Nat} {sp : Sp} (F : mg x = some (.ref (ga K x)) ∧ ∃ fd, Fun K x x st (ga K x) fd) (S : FnScope N ps (defScope st)) 
    (len : ∀ vs H Q E, sp vs H Q E → vs.length = ps.length)
    (body : ∀ (cdv : Value) (A : Around) (outer : List Env) (s : Shared) (H : Hp) (vs : List V) (Q : VK) (E : XK), Room k (A.deeper (envOfC x (defScope st) s.heap.objs.size (ga K x) cdv)) → sp vs H Q E →
      ∃ t, PSs (cxOf CX0 P w K mg base N x (defScope st) (ga K x) cdv A outer s H E).nox (defBody st) t ∧ t { nx := fun _ H' => Q .non H', rt := Q } (start N vs) H) : FnF P w K mg base (k + 1) x ps st sp := by
  obtain ⟨hm, fd, F⟩ := F
  exact ⟨hm, fd, F.ok S len body, F⟩
theorem FnF.at {x : Str} {st : Stmt} {ps : List Str} {k : Nat} {sp : Sp} (F : FnF P w K mg base k x ps st sp)
    (hb : ∀ (kV doc pm : Value) (an : Option Addr) (cdv ct : Value) (us : List Value), us.length = ps.length → bindArgs (PySem.W.fnOf x x (defArgs st) (defBody st) (defScope st) .none kV doc pm an cdv ct) ⟨us, []⟩ = pure (ps.zip us)) : FnAt P w K mg base k x ps sp := by
  obtain ⟨hm, fd, G, F⟩ := F
  exact ⟨hm, fd, G, F.binds hb, F.kp⟩
theorem FnF.kw {x : Str} {st : Stmt} {ps ks : List Str} {k : Nat} {sp : Sp} {g : List Value → List Value → List Value} {gV : List V → List V → List V} (F : FnF P w K mg base k x ps st sp)
    (rel : ∀ {vs : List V} {us : List Value} {zs : List V} {ws : List Value}, Vals vs us → Vals zs ws → Vals (gV vs zs) (g us ws))
    (hb : ∀ (kV doc pm : Value) (an : Option Addr) (cdv ct : Value) (ws : List Value), ws.length = ks.length → bindArgs (PySem.W.fnOf x x (defArgs st) (defBody st) (defScope st) .none kV doc pm an cdv ct) ⟨[], ks.zip ws⟩ = pure (ps.zip (g [] ws))) : FnKw P w K mg base k x ps ks g gV sp := by
  obtain ⟨hm, fd, G, F⟩ := F
  refine ⟨hm, fd, G, ⟨fun s us ws X l1 l2 => ?_, rel⟩, F.kp⟩
  obtain rfl : us = [] := List.length_eq_zero_iff.mp l1
  obtain ⟨oc, od, kV, doc, pm, an, cdv, ct, osl, rfl, lk, hcd⟩ := F.ex
  exact BindsTo.of_looks fun M => .of_pure (hb kV doc pm an cdv ct ws l2)
end
section
variable {X : Cx} {k j : Nat} {x : Str} {ps ks : List Str} {sp : Sp} {tk : TA} {p pos : Pos} {kws : List Keyword} {g : List Value → List Value → List Value} {gV : List V → List V → List V}
/-- f(k = v, ..), names alone -/
theorem pe_calk (F : FnKw X.prog X.w X.K X.mg X.base k x ps ks g gV sp) (hr : Room j X.A) (hk : k ≤ j := by decide) (hkw : PK X kws tk) (hg : Gl X x := by rfl) (hdb : (x == ("__debug__" : Str)) = false := by decide)
    (hall : (backToKw pos (keywordEach kws X.env)).all (·.1.isSome) = true := by rfl) (hks : (backToKw pos (keywordEach kws X.env)).filterMap (·.1) = ks := by rfl)
    (hpl : ((backTo pos (starEach [] X.env)).any (·.1) || (backToKw pos (keywordEach kws X.env)).any (·.1.isNone)) = false := by rfl) : PE X (.Call (.Name x p) [] kws pos) (tCallN 0 ks.length sp gV E0 tNil tk) := by
  obtain ⟨hm, fd, F1, b, kp⟩ := F
  refine ⟨fun pins s σ H Q I h => ?_⟩
  refine wpAny_Call_Name_kw (ld_glob I hg hm ?_ hdb)
  refine PySem.W.callWith_KW0 (h₀ := X.base) I.ok.mod.kin kp hall ?_ hpl
  refine thn (hkw.run pos pins s σ H _ I h) fun ws s2 ⟨zs, H2, I2, rz, l1, l2, q2⟩ => ⟨I2.kIn, ?_⟩
  rw [hks]
  exact run_fnN (us := []) (vs := []) (F1.mono hk) hr b pass0 I2 .nil rz rfl l2 q2
end
def tickOf (us : List WU) (j : Nat) : Nat := ((us[j]?).map WU.tick).getD 0
theorem tickOf_eq {us : List WU} {j : Nat} {x : WU} (h : us[j]? = some x) : tickOf us j = x.tick := by
  unfold tickOf
  rw [h]
  rfl
/-- the units that stand at e's tick or later -/
def laterL (us : List WU) (e : Nat) : List Nat := (List.range us.length).filter fun j => decide (tickOf us e ≤ tickOf us j)
/-- does one of the units that a is led by stand ahead of e -/
noncomputable def lead (us : List WU) (e a : Nat) : Bool := decide (first (readsN us) a < e)
noncomputable def entriesL (us : List WU) : List Nat := (List.range us.length).filter fun e => !(laterL us e).any (lead us e)
noncomputable def shownL (us : List WU) (e : Nat) : List Int := ((List.range us.length).filter fun a => !lead us e a).map fun a => ((tickOf us a : Nat) : Int)
theorem range_yes {f : Nat → Bool} {j : Nat} (h : f j = true) : (List.range (j + 1)).filter f = (List.range j).filter f ++ [j] := by
  rw [List.range_succ, List.filter_append, List.filter_cons_of_pos h, List.filter_nil]
theorem range_no {f : Nat → Bool} {j : Nat} (h : f j = false) : (List.range (j + 1)).filter f = (List.range j).filter f := by
  rw [List.range_succ, List.filter_append, List.filter_cons_of_neg (by rw [h]; decide), List.filter_nil, List.append_nil]
section
variable {P : Program} {w : World} {K : PySem.W.Frag} {mg : Str → Option Value} {base : Heap}
def spNeeded (K : PySem.W.Frag) (C : Addr) : Sp := fun vs H Q _ => ∃ p l us a, vs = [.ref p, .ref l] ∧ RowAt K C H p us ∧ Web us ∧ SqL K H l [nV a] ∧ a < us.length ∧
  ∀ q H' (ys : List Int), Same H H' → H' q = some (.lst (ys.map V.int)) → ys[0]? = some ((first (readsN us) a : Nat) : Int) → Q (.ref q) H'
theorem ok_needed (T : Txt w K mg) : FnAt P w K mg base 3 "needed" ["row", "places"] (spNeeded K (ga K "Row")) := by
  have g_come_to : FnAt P w K mg base 2 _ _ (spComeTo K (ga K "Row")) := ok_come_to T
  refine FnAt.of T.f_needed sc_needed (fun _ _ _ _ _ _ us hl => match us, hl with | [_, _], _ => rfl) (fun vs H Q E h => ?_) (fun cdv A outer s H vs Q E hr h => ?_)
  · obtain ⟨p, l, us, a, rfl, _⟩ := h
    rfl
  · obtain ⟨p, l, us, a, rfl, hrow, W, hl, ha, q⟩ := h
    refine ⟨_, (pss_one (ps_ret (pe_cal g_come_to hr (by decide) (pa_cons (pv 0) (pa_cons (pv 1) (pa_cons (pe_tup pa_nil) pa_nil)))))), ?_⟩
    refine ⟨_, rfl, _, rfl, line_le 0, fun t ht => ?_⟩
    have s1 : Same H (upd H t (.tup [])) := same_new ht
    exact ⟨p, l, t, us, a, rfl, hrow.same s1, W, s1.kept.lst (ps := []) hl (by simp), ha, .of upd_same, fun r H' ys s2 h1 h2 => q r H' ys (s1.trans s2) h1 h2⟩
def spLeads (K : PySem.W.Frag) (C : Addr) : Sp := fun vs H Q _ => ∃ p us a e, vs = [.ref p, nV a, nV e] ∧ RowAt K C H p us ∧ Web us ∧ a < us.length ∧ ∀ H', Same H H' → Q (.bl (lead us e a)) H'
theorem ok_leads_ahead (T : Txt w K mg) : FnAt P w K mg base 4 "leads_ahead" ["row", "place", "first"] (spLeads K (ga K "Row")) := by
  have g_needed : FnAt P w K mg base 3 _ _ (spNeeded K (ga K "Row")) := ok_needed T
  refine FnAt.of T.f_leads_ahead sc_leads_ahead (fun _ _ _ _ _ _ us hl => match us, hl with | [_, _, _], _ => rfl) (fun vs H Q E h => ?_) (fun cdv A outer s H vs Q E hr h => ?_)
  · obtain ⟨p, us, a, e, rfl, _⟩ := h
    rfl
  · obtain ⟨p, us, a, e, rfl, hrow, W, ha, q⟩ := h
    refine ⟨_, (pss_one (ps_ret (pe_cmpR op_lt (pe_ix (ixK_list K) (pe_cal g_needed hr (by decide) (pa_cons (pv 0) (pa_cons (pe_lst (pa_cons (pv 1) pa_nil)) pa_nil))) pe_int (fun _ _ => rfl)) (pv 2) (nomark _)))), ?_⟩
    refine ⟨_, rfl, _, rfl, line_le 1, fun l hl => ?_⟩
    have s1 : Same H (upd H l (.lst [nV a])) := same_new hl
    refine ⟨p, l, us, a, rfl, hrow.same s1, W, .of upd_same, ha, fun r H' ys s2 h1 h2 => ?_⟩
    refine ⟨r, _, 0, _, rfl, rfl, .of h1, atI_nat (i := 0) (by rw [List.getElem?_map, h2]; rfl), _, rfl, _, _, rfl, rfl, ?_⟩
    have e1 : decide (((first (readsN us) a : Nat) : Int) < ((e : Nat) : Int)) = lead us e a := by
      unfold lead
      simp
    have q2 := q H' (s1.trans s2)
    rw [← e1] at q2
    exact q2
theorem UnitsAt.same {H H' : Hp} {ua : Addr} {us : List WU} (h : UnitsAt K H ua us) (s : Same H H') : UnitsAt K H' ua us := by
  obtain ⟨uv, h1, h2, h3⟩ := h
  refine ⟨uv, s.tup h1, h2, fun j x hj => ?_⟩
  obtain ⟨a, e, u⟩ := h3 j x hj
  exact ⟨a, e, u.same s⟩
theorem UnitAt.tick_at {H : Hp} {u : Addr} {x : WU} (h : UnitAt K H u x) : ∃ xs, SqT K H u xs ∧ atI xs 1 = some (nV x.tick) := by
  obtain ⟨s, l, h1, _⟩ := h.ex
  exact ⟨_, h1, rfl⟩
def spEntries (K : PySem.W.Frag) (C : Addr) : Sp := fun vs H Q _ => ∃ p us, vs = [.ref p] ∧ RowAt K C H p us ∧ Web us ∧ ∀ q H', Same H H' → H q = none → H' q = some (.lst ((entriesL us).map nV)) → Q (.ref q) H'
theorem fn_entries (T : Txt w K mg) : FnF P w K mg base 5 "entries" ["row"] s_entries (spEntries K (ga K "Row")) := by
  have g_leads_ahead : FnAt P w K mg base 4 _ _ (spLeads K (ga K "Row")) := ok_leads_ahead T
  have g_units : MtAt P w K mg base 1 _ _ _ (spUnits K (ga K "Row")) := ok_units T
  refine FnF.of T.f_entries sc_entries (fun vs H Q E h => ?_) (fun cdv A outer s H vs Q E hr h => ?_)
  · obtain ⟨p, us, rfl, _⟩ := h
    rfl
  · obtain ⟨p, us, rfl, hrow, W, q⟩ := h
    refine ⟨_, (pss_cons (ps_par (i := 2) (j := 1) rfl sc_entries.nd rfl rfl (by decide) rfl rfl (pa_cons (pe_mcal0 g_units hr (by decide) (pv 0)) (pa_cons (pe_lst pa_nil) pa_nil)) (by rfl))
      (pss_cons (ps_for PassesOwn.never rfl (pi_enumT (by rfl) T.z_enumerate (pa_cons (pv 2) pa_nil)) (pg_tup2 K (pg_name (i := 3) sc_entries.nd rfl (Or.inr rfl)) (pg_name (i := 4) sc_entries.nd rfl (Or.inr rfl))) (pss_cons (ps_setLc (i := 5) (own := [("at", 6), ("other", 7)]) rfl sc_entries.nd rfl rfl (sw_true rfl rfl rfl (by decide +kernel)) (pi_enumT (by rfl) T.z_enumerate (pa_cons (pv 2) pa_nil)) (blkOk_by (own := [("at", 6), ("other", 7)]) (N := N_entries) (sc := defScope s_entries) (by decide +kernel)) (fun _ _ _ _ _ => (pg_tup2 K (pg_name (i := 6) sc_entries.nd rfl (Or.inl rfl)) (pg_name (i := 7) sc_entries.nd rfl (Or.inl rfl)))) (fun _ _ _ _ _ => (pts_one (pt_cmpR op_ge (pe_ix (ixK_tup K) (pv 7) pe_int (fun _ _ => rfl)) (pe_ix (ixK_tup K) (pv 4) pe_int (fun _ _ => rfl)) (nomark _)))) (fun _ _ _ _ _ => (pv 6)))
      (pss_one (ps_if (pt_not (pt_val (pe_callB (cr_any rfl) (by rfl) T.z_any bb_any (pa_cons (pe_lc (own := [("at", 6)]) rfl sc_entries.nd (pi_list (pv 5)) (blkOk_by (own := [("at", 6)]) (N := N_entries) (sc := defScope s_entries) (by decide +kernel)) (fun _ _ _ _ _ => (pg_name (i := 6) sc_entries.nd rfl (Or.inl rfl))) (fun _ _ _ _ _ => pts_nil) (fun _ _ _ _ _ => (pe_cal g_leads_ahead hr (by decide) (pa_cons (pv 0) (pa_cons (pv 6) (pa_cons (pv 3) pa_nil)))))) pa_nil)))) (pss_one (ps_expr (pe_bm PySem.F.plainAttrs_list PySem.F.slot_list_append PySem.F.type_list_append mt_append (pv 1) (pa_cons (pv 3) pa_nil)))) pss_nil))))
      (pss_one (ps_ret (pv 1))))), ?_⟩
    obtain ⟨dx, _, _, _, _, _, _, hp, _⟩ := hrow.ex
    refine ⟨_, rfl, p, dx, _, rfl, hp, rf_no (by decide +kernel), p, us, rfl, hrow, fun ua hua => ⟨line_le 0, fun f hf => ⟨_, _, rfl, ?_⟩⟩⟩
    have s0 : Same H (upd H f (.lst [])) := same_new hf
    obtain ⟨uv, huaH, hlen, hun⟩ := id hua
    have hua0 := s0.tup huaH
    have few := W.few
    refine ⟨_, rfl, ua, uv, rfl, hua0, ?_⟩
    refine for_it walk_enumT (fun i σ H' => ∃ x1 x2 x3, σ = [some (.ref p), some (.ref f), some (.ref ua), x1, x2, x3, none, none] ∧ Same H H' ∧ H' f = some (.lst (((List.range i).filter fun e => !(laterL us e).any (lead us e)).map nV)) ∧ UnitsAt K H' ua us ∧ SqT K H' ua uv)
      ⟨_, _, _, rfl, s0, upd_same, hua.same s0, hua0⟩ (fun i σ H' _ h => by obtain ⟨_, _, _, _, _, _, _, e⟩ := h; exact e) ?_ ?_
    · rintro i y σ H0 H' hi ⟨x1, x2, x3, rfl, S1, f1, un1, sq1⟩ ⟨T1, y1, y2, rfl, nT, rfl, hy1, hy2⟩
      obtain rfl : V.int (i : Nat) = y1 := Option.some.inj hy1
      have hi2 : i < us.length := by omega
      obtain ⟨a, ea, ua1⟩ := hun i us[i] (by simp [hi2])
      obtain rfl : V.ref a = y2 := Option.some.inj (ea.symm.trans hy2)
      refine ⟨T1, _, rfl, .of upd_same, rfl, _, _, rfl, _, _, rfl, rfl, ?_⟩
      have s2 : Same H0 (upd H0 T1 (.tup [nV i, .ref a])) := same_new nT
      generalize (upd H0 T1 (.tup [nV i, .ref a])) = H2 at s2
      have S2 := S1.trans s2
      have f2 := s2 _ _ f1
      have sq2 := s2.tup sq1
      refine ⟨_, rfl, ua, uv, rfl, sq2, fun D hD => ?_⟩
      have tick_i : tickOf us i = (us[i]).tick := tickOf_eq (by simp [hi2])
      refine lc_it walk_enumT (fun j H' => Same H2 H' ∧ H' D = some (.lst (((List.range j).filter fun k => decide (tickOf us i ≤ tickOf us k)).map nV))) ⟨same_new hD, upd_same⟩ (fun j H' _ h => h.1.tup sq2) ?_ ?_
      · rintro j y H3 H3' hj ⟨s3, d3⟩ ⟨T3, z1, z2, rfl, nT3, rfl, hz1, hz2⟩
        obtain rfl : V.int (j : Nat) = z1 := Option.some.inj hz1
        have hj2 : j < us.length := by omega
        obtain ⟨b, eb, ub1⟩ := hun j us[j] (by simp [hj2])
        obtain rfl : V.ref b = z2 := Option.some.inj (eb.symm.trans hz2)
        have tick_j : tickOf us j = (us[j]).tick := tickOf_eq (by simp [hj2])
        refine ⟨T3, _, rfl, .of upd_same, rfl, _, _, rfl, _, _, rfl, rfl, rfl, ?_⟩
        have s4 : Same H3 (upd H3 T3 (.tup [nV j, .ref b])) := same_new nT3
        have d4 := s4 _ _ d3
        generalize (upd H3 T3 (.tup [nV j, .ref b])) = H4 at s4 d4
        have S4 : Same H H4 := (S2.trans s3).trans s4
        obtain ⟨xb, hb1, hb2⟩ := (ub1.same S4).tick_at
        obtain ⟨xa, ha1, ha2⟩ := (ua1.same S4).tick_at
        refine ⟨_, rfl, b, xb, 1, _, rfl, rfl, hb1, hb2, _, rfl, a, xa, 1, _, rfl, rfl, ha1, ha2, _, _, rfl, rfl, _, rfl, iteD (fun h1 => ?_) (fun h1 => ?_)⟩
        · have h1' : decide (tickOf us i ≤ tickOf us j) = true := by
            rw [tick_i, tick_j]
            exact decide_eq_true (by omega)
          refine ⟨_, rfl, _, d4, ?_, fun c o e => ?_, ?_⟩
          · rw [List.length_map]
            have := List.length_filter_le (fun k => decide (tickOf us i ≤ tickOf us k)) (List.range j)
            rw [List.length_range] at this
            exact small1000 (by omega)
          · rw [upd_ne (ne_of_none e hD)]
            exact s4 _ _ (s3 _ _ e)
          · rw [upd_same, range_yes h1', List.map_append]
            rfl
        · have h1' : decide (tickOf us i ≤ tickOf us j) = false := by
            rw [tick_i, tick_j]
            exact decide_eq_false (by omega)
          refine ⟨s3.trans s4, ?_⟩
          rw [range_no h1']
          exact d4
      rintro H3 ⟨s3, d3⟩
      rw [hlen] at d3
      have S3 := S2.trans s3
      have f3 := s3 _ _ f2
      have sq3 := s3.tup sq2
      generalize eL : (List.range us.length).filter (fun k => decide (tickOf us i ≤ tickOf us k)) = L at d3
      have eL2 : laterL us i = L := eL
      have Lb : ∀ k ∈ L, k < us.length := fun k hk => by
        rw [← eL] at hk
        exact List.mem_range.mp (List.mem_filter.mp hk).1
      have Ll : L.length ≤ 24 := by
        rw [← eL]
        have := List.length_filter_le (fun k => decide (tickOf us i ≤ tickOf us k)) (List.range us.length)
        rw [List.length_range] at this
        omega
      refine ⟨_, rfl, D, rfl, ⟨_, .of d3⟩, fun D2 hD2 => ?_⟩
      refine lc_it (walk_list (K := K) (xs := L.map nV)) (fun j H' => Same H3 H' ∧ H' D2 = some (.lst (((L.take j).map (lead us i)).map V.bl))) ⟨same_new hD2, upd_same⟩ (fun j H' _ h => .of (h.1 _ _ d3)) ?_ ?_
      · rintro j y H4 _ hj ⟨s4, d4⟩ ⟨rfl, hy⟩
        obtain ⟨k, hk, rfl⟩ := mapGet hy
        refine ⟨rfl, t_yes (iteT ?_)⟩
        refine ⟨_, rfl, _, rfl, _, rfl, p, us, k, i, rfl, hrow.same (S3.trans s4), W, Lb k (List.mem_of_getElem? hk), fun H5 s5 => ?_⟩
        refine ⟨_, s5 _ _ d4, ?_, fun c o e => ?_, ?_⟩
        · rw [List.length_map, List.length_map, List.length_take]
          exact small1000 (by omega)
        · rw [upd_ne (ne_of_none e hD2)]
          exact s5 _ _ (s4 _ _ e)
        · rw [upd_same, take_next hk, List.map_append, List.map_append]
          rfl
      rintro H4 ⟨s4, d4⟩
      rw [List.length_map, List.take_length] at d4
      refine ⟨D2, L.map (lead us i), rfl, .of d4, _, rfl, ?_⟩
      have f4 := s4 _ _ f3
      have e5 : (L.map (lead us i)).any id = (laterL us i).any (lead us i) := by
        rw [eL2, List.any_map]
        rfl
      cases e6 : (laterL us i).any (lead us i) with
      | true =>
        rw [e5, e6]
        refine iteF ⟨_, _, _, rfl, S3.trans s4, ?_, hua.same (S3.trans s4), s4.tup sq3⟩
        rw [range_no (by rw [e6]; rfl)]
        exact f4
      | false =>
        rw [e5, e6]
        refine iteT ?_
        refine ⟨_, rfl, .inl ⟨rfl, _, .of f4⟩, _, rfl, f, _, _, rfl, rfl, f4, ?_, ?_⟩
        · rw [List.length_map]
          have := List.length_filter_le (fun e => !(laterL us e).any (lead us e)) (List.range i)
          rw [List.length_range] at this
          exact small1000 (by omega)
        · have S5 : Same H (upd H4 f (.lst (((List.range i).filter fun e => !(laterL us e).any (lead us e)).map nV ++ [nV i]))) := fun c o e => by
            rw [upd_ne (ne_of_none e hf)]
            exact s4 _ _ (S3 _ _ e)
          refine ⟨_, _, _, rfl, S5, ?_, hua.same S5, S5.tup huaH⟩
          rw [upd_same, range_yes (by rw [e6]; rfl), List.map_append]
          rfl
    · rintro σ H' ⟨x1, x2, x3, rfl, S1, f1, un1, sq1⟩
      rw [hlen] at f1
      exact ⟨_, rfl, q f H' S1 hf f1⟩
def spShown (K : PySem.W.Frag) (C : Addr) : Sp := fun vs H Q _ => ∃ p us e, vs = [.ref p, nV e] ∧ RowAt K C H p us ∧ Web us ∧ ∀ q H' (ns : List Int), Same H H' → H' q = some (.lst (ns.map V.int)) → ns.Perm (shownL us e) → ns.Pairwise (· ≤ ·) → Q (.ref q) H'
theorem fn_shown_from (T : Txt w K mg) : FnF P w K mg base 5 "shown_from" ["row", "e"] s_shown_from (spShown K (ga K "Row")) := by
  have g_leads_ahead : FnAt P w K mg base 4 _ _ (spLeads K (ga K "Row")) := ok_leads_ahead T
  have g_units : MtAt P w K mg base 1 _ _ _ (spUnits K (ga K "Row")) := ok_units T
  refine FnF.of T.f_shown_from sc_shown_from (fun vs H Q E h => ?_) (fun cdv A outer s H vs Q E hr h => ?_)
  · obtain ⟨p, us, e, rfl, _⟩ := h
    rfl
  · obtain ⟨p, us, e, rfl, hrow, W, q⟩ := h
    refine ⟨_, (pss_one (ps_ret (pe_callB cr_sortedI (by rfl) T.z_sorted bb_sorted (pa_cons (pe_lc (own := [("at", 2), ("unit", 3)]) rfl sc_shown_from.nd (pi_enumT (by rfl) T.z_enumerate (pa_cons (pe_mcal0 g_units hr (by decide) (pv 0)) pa_nil)) (blkOk_by (own := [("at", 2), ("unit", 3)]) (N := N_shown_from) (sc := defScope s_shown_from) (by decide +kernel)) (fun _ _ _ _ _ => (pg_tup2 K (pg_name (i := 2) sc_shown_from.nd rfl (Or.inl rfl)) (pg_name (i := 3) sc_shown_from.nd rfl (Or.inl rfl)))) (fun _ _ _ _ _ => (pts_one (pt_not (pt_val (pe_cal g_leads_ahead hr (by decide) (pa_cons (pv 0) (pa_cons (pv 2) (pa_cons (pv 1) pa_nil)))))))) (fun _ _ _ _ _ => (pe_ix (ixK_tup K) (pv 3) pe_int (fun _ _ => rfl)))) pa_nil)))), ?_⟩
    obtain ⟨dx, _, _, _, _, _, _, hp, _⟩ := hrow.ex
    have few := W.few
    refine ⟨_, rfl, p, dx, _, rfl, hp, rf_no (by decide +kernel), p, us, rfl, hrow, fun ua hua => ?_⟩
    obtain ⟨uv, hua0, hlen, hun⟩ := hua
    refine ⟨ua, uv, rfl, hua0, fun D hD => ?_⟩
    refine lc_it walk_enumT (fun j H' => Same H H' ∧ H' D = some (.lst ((((List.range j).filter fun a => !lead us e a).map fun a => ((tickOf us a : Nat) : Int)).map V.int))) ⟨same_new hD, upd_same⟩ (fun j H' _ h => h.1.tup hua0) ?_ ?_
    · rintro j y H3 H3' hj ⟨s3, d3⟩ ⟨T3, z1, z2, rfl, nT3, rfl, hz1, hz2⟩
      obtain rfl : V.int (j : Nat) = z1 := Option.some.inj hz1
      have hj2 : j < us.length := by omega
      obtain ⟨b, eb, ub1⟩ := hun j us[j] (by simp [hj2])
      obtain rfl : V.ref b = z2 := Option.some.inj (eb.symm.trans hz2)
      have tick_j : tickOf us j = (us[j]).tick := tickOf_eq (by simp [hj2])
      refine ⟨T3, _, rfl, .of upd_same, rfl, _, _, rfl, _, _, rfl, rfl, rfl, ?_⟩
      have s4 : Same H3 (upd H3 T3 (.tup [nV j, .ref b])) := same_new nT3
      have d4 := s4 _ _ d3
      generalize (upd H3 T3 (.tup [nV j, .ref b])) = H4 at s4 d4
      refine ⟨_, rfl, _, rfl, _, rfl, p, us, j, e, rfl, hrow.same (s3.trans s4), W, hj2, fun H5 s5 => ?_⟩
      have S5 := (s3.trans s4).trans s5
      have d5 := s5 _ _ d4
      refine ⟨_, rfl, ?_⟩
      cases e6 : lead us e j with
      | true =>
        refine iteF ⟨S5, ?_⟩
        rw [range_no (by rw [e6]; rfl)]
        exact d5
      | false =>
        refine iteT ?_
        obtain ⟨xb, hb1, hb2⟩ := (ub1.same S5).tick_at
        refine ⟨_, rfl, b, xb, 1, _, rfl, rfl, hb1, hb2, _, d5, ?_, fun c o e => ?_, ?_⟩
        · rw [List.length_map, List.length_map]
          have := List.length_filter_le (fun a => !lead us e a) (List.range j)
          rw [List.length_range] at this
          exact small1000 (by omega)
        · rw [upd_ne (ne_of_none e hD)]
          exact S5 _ _ e
        · rw [upd_same, range_yes (by rw [e6]; rfl), List.map_append, List.map_append, ← tick_j]
          rfl
    · rintro H' ⟨s1, d1⟩
      rw [hlen] at d1
      exact ⟨D, _, rfl, .of d1, fun ns r hp hs hr => q r _ ns (s1.new hr) upd_same hp hs⟩
theorem ok_entries (T : Txt w K mg) : FnAt P w K mg base 5 "entries" ["row"] (spEntries K (ga K "Row")) := (fn_entries T).at (fun _ _ _ _ _ _ us hl => match us, hl with | [_], _ => rfl)
theorem ok_shown_from (T : Txt w K mg) : FnAt P w K mg base 5 "shown_from" ["row", "e"] (spShown K (ga K "Row")) := (fn_shown_from T).at (fun _ _ _ _ _ _ us hl => match us, hl with | [_, _], _ => rfl)
theorem kw_entries (T : Txt w K mg) : FnKw P w K mg base 5 "entries" ["row"] ["row"] (fun us ws => ws) (fun vs zs => zs) (spEntries K (ga K "Row")) :=
  (fn_entries T).kw (fun _ r => r) (fun _ _ _ _ _ _ ws hl => match ws, hl with | [_], _ => rfl)
theorem vals_rev {a b : List V} {us ws : List Value} (r : Vals a us) : Vals a.reverse us.reverse := by
  induction r with
  | nil => exact .nil
  | cons h _ ih =>
    rw [List.reverse_cons, List.reverse_cons]
    exact ih.append (.cons h .nil)
theorem kw_shown_from (T : Txt w K mg) : FnKw P w K mg base 5 "shown_from" ["row", "e"] ["e", "row"] (fun us ws => ws.reverse) (fun vs zs => zs.reverse) (spShown K (ga K "Row")) :=
  (fn_shown_from T).kw (fun _ r => vals_rev (b := []) (ws := []) r) (fun _ _ _ _ _ _ ws hl => match ws, hl with | [_, _], _ => rfl)
end
end K36
namespace K36
open L2 PySem
open PySem.Spec PyProof.Rows
def primes : List Int := [2147483629, 2147483587, 2147483579, 2147483563, 2147483549, 2147483543, 2147483497, 2147483489, 2147483477, 2147483423, 2147483399, 2147483353, 2147483323, 2147483269, 2147483249]
theorem primes_pos {p : Int} (h : p ∈ primes) : 0 < p ∧ p < 2147483648 := by
  have : ∀ q ∈ primes, 0 < q ∧ q < 2147483648 := by decide
  exact this p h
def tCell (K : PySem.W.Frag) : TE := fun σ H Q => ∃ (sc : Addr) (k : Nat) (ns : List Int), σ[0]? = some (some (V.ref sc)) ∧ σ[1]? = some (some (nV k)) ∧ SqL K H sc (ns.map V.int) ∧ ∀ (c : Int) H', Same H H' → Q (.int c) H'
theorem PS.weak {X : Cx} {st : Stmt} {t t' : TS} (h : PS X st t) (w : ∀ D σ H, t' D σ H → t D σ H) : PS X st t' := ⟨fun pins s σ H D I q => h.run pins s σ H D I (w D σ H q)⟩
def tHalt (K : PySem.W.Frag) : TS := fun D σ H => ∃ (sc : Addr) (k : Nat) (c : Int) (ns : List Int), σ[0]? = some (some (V.ref sc)) ∧ σ[1]? = some (some (nV k)) ∧ σ[2]? = some (some (V.int c)) ∧ SqL K H sc (ns.map V.int) ∧
  (∀ r z, H r = none → D.rt (.ref r) (upd H r (.lst [.int z]))) ∧ D.nx σ H
section
variable {P : Program} {w : World} {K : PySem.W.Frag} {mg : Str → Option Value} {base : Heap}
def spState (K : PySem.W.Frag) : Sp := fun vs H Q _ => ∃ (sc : Addr) (k : Nat) (ns : List Int), vs = [.ref sc, nV k] ∧ SqL K H sc (ns.map V.int) ∧ ∀ q z H', Same H H' → H q = none → H' q = some (.lst [.int z]) → Q (.ref q) H'
theorem ok_state (T : Txt w K mg) : FnAt P w K mg base 1 "_law_state" ["_law_script", "_law_k"] (spState K) := by
  refine FnAt.of T.f__law_state sc__law_state (fun _ _ _ _ _ _ us hl => match us, hl with | [_, _], _ => rfl) (fun vs H Q E h => ?_) (fun cdv A outer s H vs Q E hr h => ?_)
  · obtain ⟨sc, k, ns, rfl, _⟩ := h
    rfl
  · obtain ⟨sc, k, ns, rfl, hs, q⟩ := h
    refine ⟨_, (pss_cons (ps_set (i := 2) sc__law_state.nd rfl (Or.inl rfl) (PE.weak (t' := tCell K) (pe_ifExp (pt_cmpR (op_neD hr.units) (pv 0) (pe_lst pa_nil) (nomark _)) (pe_callB call_abs (by rfl) T.z_abs bb_abs (pa_cons (pe_ix (ixK_list K) (pv 0) (pe_op op_mod (pv 1) (pe_callB (callK_len K) (by rfl) T.z_len PySem.boot_len (pa_cons (pv 0) pa_nil))) (fun _ _ => rfl)) pa_nil)) pe_int) (fun σ H Q hc => by
      obtain ⟨sc, k, ns, h0, h1, hs, q⟩ := hc
      refine ⟨_, h0, line_le 0, fun e0 he0 => ?_⟩
      have s1 : Same H (upd H e0 (.lst [])) := same_new he0
      have hs1 : SqL K (upd H e0 (.lst [])) sc (ns.map V.int) := s1.kept.lst (ps := []) hs (by simp)
      refine ⟨.list (ns.map PyData.int), .list (([] : List Int).map PyData.int), .lst hs1 (dp_ints _), .lst (.of upd_same) .nil, PySem.W.shaped_ints _, PySem.W.shaped_ints [], ?_⟩
      rw [eqv_ints]
      generalize (upd H e0 (.lst [])) = H1 at s1 hs1
      refine ⟨_, rfl, iteN (fun _ => q 0 H1 s1) fun hn => ?_⟩
      have hl : 0 < ns.length := List.length_pos_iff.mpr hn
      have hl2 : (0 : Int) < ((ns.map V.int).length : Nat) := by rw [List.length_map]; omega
      have hk : k % ns.length < ns.length := Nat.mod_lt _ hl
      refine ⟨_, h0, _, h1, _, h0, sc, _, rfl, .inl hs1, _, _, rfl, rfl, hl2, sc, _, _, .int ns[k % ns.length], rfl, rfl, hs1, ?_, _, rfl, q _ H1 s1⟩
      have e : ((k : Nat) : Int) % (((ns.map V.int).length : Nat) : Int) = ((k % ns.length : Nat) : Int) := by rw [List.length_map]; rfl
      rw [e]
      exact atI_nat (by rw [List.getElem?_map, List.getElem?_eq_getElem hk]; rfl))))
      (pss_cons (PS.weak (t' := tHalt K) (ps_if (PW.pt (pw_and (pt_cmpR op_ge (pv 2) (pe_op op_pow pe_int pe_int) (nomark _)) (pw_and1 (pt_cmpR op_lt (pv 1) (pe_callB (callK_len K) (by rfl) T.z_len PySem.boot_len (pa_cons (pv 0) pa_nil)) (nomark _))))) (pss_one (ps_ret (pe_lst (pa_cons (pe_op op_sub (pv 2) (pe_op op_pow pe_int pe_int)) pa_nil)))) pss_nil) (fun D σ H hc => by
      obtain ⟨sc, k, c, ns, h0, h1, h2, hs, q1, q2⟩ := hc
      refine ⟨_, h2, _, _, rfl, rfl, ⟨by decide, by decide, by decide⟩, _, _, rfl, rfl, _, rfl, iteD (fun _ => ?_) fun _ => iteF q2⟩
      refine ⟨_, h1, _, h0, sc, _, rfl, .inl hs, _, _, rfl, rfl, _, rfl, iteD (fun _ => ?_) fun _ => q2⟩
      exact ⟨_, h2, _, _, rfl, rfl, ⟨by decide, by decide, by decide⟩, _, _, rfl, rfl, line_le 1, fun r hr => q1 r _ hr⟩))
      (pss_cons (ps_set (i := 3) sc__law_state.nd rfl (Or.inl rfl) (pe_lst (pa_cons pe_int (pa_cons pe_int (pa_cons pe_int (pa_cons pe_int (pa_cons pe_int (pa_cons pe_int (pa_cons pe_int (pa_cons pe_int pa_nil))))))))))
      (pss_cons (ps_set (i := 3) sc__law_state.nd rfl (Or.inl rfl) (pe_op op_cat (pv 3) (pe_lst (pa_cons pe_int (pa_cons pe_int (pa_cons pe_int (pa_cons pe_int (pa_cons pe_int (pa_cons pe_int (pa_cons pe_int pa_nil))))))))))
      (pss_cons (ps_set (i := 4) sc__law_state.nd rfl (Or.inl rfl) pe_int)
      (pss_cons (ps_for PassesOwn.never rfl (pi_enum (by rfl) T.z_enumerate (pa_cons (pv 3) pa_nil)) (pg_tup2 K (pg_name (i := 5) sc__law_state.nd rfl (Or.inl rfl)) (pg_name (i := 6) sc__law_state.nd rfl (Or.inl rfl))) (pss_cons (ps_set (i := 7) sc__law_state.nd rfl (Or.inl rfl) (pe_op op_mod (pe_op op_add (pe_op op_add (pe_op op_add (pv 2) (pe_op op_mul pe_int (pv 1))) (pe_op op_mul pe_int (pv 5))) pe_int) (pv 6)))
      (pss_one (ps_set (i := 4) sc__law_state.nd rfl (Or.inl rfl) (pe_op op_add (pe_op op_mul (pv 4) pe_int) (pe_op op_mod (pe_op op_mul (pv 7) (pe_op op_add (pe_op op_add (pe_op op_mul (pv 7) (pv 7)) (pe_op op_mul pe_int (pv 5))) pe_int)) (pv 6)))))))
      (pss_one (ps_ret (pe_lst (pa_cons (pv 4) pa_nil)))))))))), ?_⟩
    refine ⟨sc, k, ns, rfl, rfl, hs, fun c H1 s1 => ?_⟩
    have hs1 : SqL K H1 sc (ns.map V.int) := s1.kept.lst (ps := []) hs (by simp)
    have fin : ∀ {H2 : Hp}, Same H1 H2 → ∀ z, ∀ r, H2 r = none → Q (.ref r) (upd H2 r (.lst [.int z])) := fun {H2} s2 z r hr => by
      have s3 := s1.trans s2
      refine q r z _ (s3.new hr) ?_ upd_same
      cases e : H r with
      | none => rfl
      | some o => rw [s3 _ _ e] at hr; cases hr
    refine ⟨sc, k, c, ns, rfl, rfl, rfl, hs1, fun r z hr => fin (Same.refl _) z r hr, ?_⟩
    refine ⟨line_le 8, fun p1 hp1 => ?_⟩
    have s2 : Same H1 (upd H1 p1 (.lst [.int 2147483629, .int 2147483587, .int 2147483579, .int 2147483563, .int 2147483549, .int 2147483543, .int 2147483497, .int 2147483489])) := same_new hp1
    have e2 : (upd H1 p1 (.lst [.int 2147483629, .int 2147483587, .int 2147483579, .int 2147483563, .int 2147483549, .int 2147483543, .int 2147483497, .int 2147483489])) p1 = some (.lst [.int 2147483629, .int 2147483587, .int 2147483579, .int 2147483563, .int 2147483549, .int 2147483543, .int 2147483497, .int 2147483489]) := upd_same
    generalize (upd H1 p1 (.lst [.int 2147483629, .int 2147483587, .int 2147483579, .int 2147483563, .int 2147483549, .int 2147483543, .int 2147483497, .int 2147483489])) = H2 at s2 e2
    refine ⟨_, rfl, line_le 7, fun p2 hp2 => ?_⟩
    refine ⟨p1, p2, _, _, rfl, rfl, (same_new hp2) _ _ e2, upd_same, line_le 15, fun p3 hp3 => ?_⟩
    have s3 := (s2.new (o := .lst [.int 2147483477, .int 2147483423, .int 2147483399, .int 2147483353, .int 2147483323, .int 2147483269, .int 2147483249]) hp2).new (o := .lst (primes.map V.int)) hp3
    have e3 : (upd (upd H2 p2 (.lst [.int 2147483477, .int 2147483423, .int 2147483399, .int 2147483353, .int 2147483323, .int 2147483269, .int 2147483249])) p3 (.lst (primes.map V.int))) p3 = some (.lst (primes.map V.int)) := upd_same
    refine ⟨_, rfl, p3, primes.map V.int, rfl, .of upd_same, ?_⟩
    refine for_it walk_enum (fun i σ H' => ∃ f x y z, σ = [some (.ref sc), some (nV k), some (.int c), some (.ref p3), some (.int f), x, y, z] ∧ Same H1 H' ∧ SqL K H' p3 (primes.map V.int))
      ⟨0, _, _, _, rfl, s3, .of e3⟩ (fun i σ H' _ h => by obtain ⟨_, _, _, _, _, _, e⟩ := h; exact e) ?_ ?_
    · rintro i y σ H0 H' hi ⟨f, x1, x2, x3, rfl, S1, sq1⟩ ⟨T1, y1, y2, rfl, nT, rfl, hy1, hy2⟩
      obtain rfl : V.int (i : Nat) = y1 := Option.some.inj hy1
      obtain ⟨pr, hpr, rfl⟩ := mapGet hy2
      obtain ⟨pos, small⟩ := primes_pos (List.mem_of_getElem? hpr)
      refine ⟨T1, _, rfl, .of upd_same, rfl, _, _, rfl, _, _, rfl, rfl, ?_⟩
      have s4 : Same H0 (upd H0 T1 (.tup [nV i, .int pr])) := same_new nT
      generalize (upd H0 T1 (.tup [nV i, .int pr])) = H4 at s4
      refine ⟨_, rfl, _, rfl, _, _, rfl, rfl, .inl ⟨by decide, by decide⟩, _, _, rfl, rfl, _, rfl, _, _, rfl, rfl, .inl ⟨by decide, by decide⟩, _, _, rfl, rfl, _, _, rfl, rfl, _, rfl, _, _, rfl, rfl, pos, ?_⟩
      have b0 : 0 ≤ (c + 104729 * ((k : Nat) : Int) + 1299709 * ((i : Nat) : Int) + 17) % pr := Int.emod_nonneg _ (by omega)
      have b1 : (c + 104729 * ((k : Nat) : Int) + 1299709 * ((i : Nat) : Int) + 17) % pr < pr := Int.emod_lt_of_pos _ pos
      have sm : -(2 ^ 64) < (c + 104729 * ((k : Nat) : Int) + 1299709 * ((i : Nat) : Int) + 17) % pr ∧ (c + 104729 * ((k : Nat) : Int) + 1299709 * ((i : Nat) : Int) + 17) % pr < 2 ^ 64 := ⟨by omega, by omega⟩
      refine ⟨_, rfl, _, _, rfl, rfl, .inr ⟨by decide, by decide⟩, _, rfl, _, rfl, _, rfl, _, _, rfl, rfl, .inl sm, _, rfl, _, _, rfl, rfl, .inl ⟨by decide, by decide⟩, _, _, rfl, rfl, _, _, rfl, rfl, _, _, rfl, rfl, .inl sm, _, rfl, _, _, rfl, rfl, pos, _, _, rfl, rfl, ?_⟩
      exact ⟨_, _, _, _, rfl, S1.trans s4, s4.kept.lst (ps := []) sq1 (by simp)⟩
    · rintro σ H' ⟨f, x1, x2, x3, rfl, S1, sq1⟩
      exact ⟨_, rfl, line_le 1, fun r hr => fin S1 f r hr⟩
/-- a state's next number -/
def spNext : Sp := fun vs H Q _ => ∃ (st : Addr) (z m : Int), vs = [.ref st, .int m] ∧ H st = some (.lst [.int z]) ∧ 0 < m ∧ m < 1073741824 ∧ ∀ r z' : Int, 0 ≤ r → r < m → Q (.int r) (upd H st (.lst [.int z']))
theorem ok_next (T : Txt w K mg) : FnAt P w K mg base 1 "_law_next" ["_law_state_here", "_law_many"] spNext := by
  refine FnAt.of T.f__law_next sc__law_next (fun _ _ _ _ _ _ us hl => match us, hl with | [_, _], _ => rfl) (fun vs H Q E h => ?_) (fun cdv A outer s H vs Q E hr h => ?_)
  · obtain ⟨st, z, m, rfl, _⟩ := h
    rfl
  · obtain ⟨st, z, m, rfl, hz, m0, m1, q⟩ := h
    refine ⟨_, (pss_cons (ps_set (i := 2) sc__law_next.nd rfl (Or.inl rfl) (pe_op op_mod (pe_ix (ixK_list K) (pv 0) pe_int (fun _ _ => rfl)) (pv 1)))
      (pss_cons (ps_asg (pe_op op_fdiv (pe_ix (ixK_list K) (pv 0) pe_int (fun _ _ => rfl)) (pv 1)) (pg_sub (pv 0) pe_int set_list))
      (pss_one (ps_ret (pv 2))))), ?_⟩
    refine ⟨_, rfl, st, _, 0, .int z, rfl, rfl, .of hz, rfl, _, rfl, _, _, rfl, rfl, m0, ?_⟩
    refine ⟨_, rfl, st, _, 0, .int z, rfl, rfl, .of hz, rfl, _, rfl, _, _, rfl, rfl, ⟨m0, m1⟩, ?_⟩
    refine ⟨_, rfl, st, _, 0, 0, rfl, rfl, hz, rfl, ?_⟩
    exact ⟨_, rfl, q _ _ (Int.emod_nonneg _ (by omega)) (Int.emod_lt_of_pos _ m0)⟩
end
end K36
namespace K36
/-! ### the order's plain law: intervals -/
def exp1 (p : Nat × Nat) : List Nat := List.range' p.1 (p.2 - p.1)
def expand : List (Nat × Nat) → List Nat
  | [] => []
  | p :: r => exp1 p ++ expand r
theorem expand_app : ∀ xs ys, expand (xs ++ ys) = expand xs ++ expand ys
  | [], _ => rfl
  | p :: r, ys => by
    show exp1 p ++ expand (r ++ ys) = (exp1 p ++ expand r) ++ expand ys
    rw [expand_app r ys, List.append_assoc]
theorem count_exp1 (a : Nat) (p : Nat × Nat) : (exp1 p).count a = if p.1 ≤ a ∧ a < p.2 then 1 else 0 := by
  unfold exp1
  rw [(List.nodup_range').count]
  by_cases h : p.1 ≤ a ∧ a < p.2
  · rw [if_pos h, if_pos]
    rw [List.mem_range'_1]
    omega
  · rw [if_neg h, if_neg]
    rw [List.mem_range'_1]
    omega
theorem count_one (a b : Nat) : ([b] : List Nat).count a = if b = a then 1 else 0 := by
  rw [List.count_singleton]
  by_cases h : b = a <;> simp [h]
def midOf (lo hi : Nat) : Nat := (lo + (hi - 1)) / 2
/-- an interval's high number and its middle, if that is another -/
def heads (lo hi : Nat) : List Nat := if midOf lo hi < hi - 1 then [hi - 1, midOf lo hi] else [hi - 1]
theorem order_step {F : List Nat} {lo hi last : Nat} {r : List (Nat × Nat)} (h : lo < hi) (p : (F ++ expand ((lo, hi) :: r)).Perm (List.range last)) :
    ((F ++ heads lo hi) ++ expand (((lo, midOf lo hi) :: r) ++ [(midOf lo hi + 1, hi - 1)])).Perm (List.range last) := by
  refine List.Perm.trans ?_ p
  rw [List.perm_iff_count]
  intro a
  have m1 : lo ≤ midOf lo hi := by unfold midOf; omega
  have m2 : midOf lo hi ≤ hi - 1 := by unfold midOf; omega
  rw [expand_app]
  show List.count a ((F ++ heads lo hi) ++ ((exp1 (lo, midOf lo hi) ++ expand r) ++ (exp1 (midOf lo hi + 1, hi - 1) ++ []))) = List.count a (F ++ (exp1 (lo, hi) ++ expand r))
  simp only [List.count_append, count_exp1, List.count_nil]
  have hh : List.count a (heads lo hi) = (if hi - 1 = a then 1 else 0) + (if midOf lo hi < hi - 1 ∧ midOf lo hi = a then 1 else 0) := by
    unfold heads
    generalize midOf lo hi = m at *
    by_cases c : m < hi - 1
    · rw [if_pos c]
      rw [show ([hi - 1, m] : List Nat) = [hi - 1] ++ [m] from rfl, List.count_append, count_one, count_one]
      congr 1
      by_cases d : m = a
      · rw [if_pos d, if_pos ⟨c, d⟩]
      · rw [if_neg d, if_neg (fun z => d z.2)]
    · rw [if_neg c, count_one, if_neg (c := m < hi - 1 ∧ m = a) (fun z => c z.1)]
      rfl
  rw [hh]
  generalize midOf lo hi = m at *
  split <;> split <;> split <;> split <;> split <;> omega
theorem order_skip {F : List Nat} {lo hi last : Nat} {r : List (Nat × Nat)} (h : ¬ lo < hi) (p : (F ++ expand ((lo, hi) :: r)).Perm (List.range last)) : (F ++ expand r).Perm (List.range last) := by
  have e : exp1 (lo, hi) = [] := by
    unfold exp1
    rw [show (lo, hi).2 - (lo, hi).1 = 0 by show hi - lo = 0; omega]
    rfl
  have e2 : expand ((lo, hi) :: r) = expand r := by
    show exp1 (lo, hi) ++ expand r = expand r
    rw [e]
    rfl
  rw [e2] at p
  exact p
theorem order_next {F : List Nat} {f last : Nat} (h : f ≤ last) (p : F.Perm (List.range f)) : (F ++ expand [(f, last)]).Perm (List.range last) := by
  rw [List.perm_iff_count] at *
  intro a
  have p := p a
  show List.count a (F ++ (exp1 (f, last) ++ [])) = _
  simp only [List.count_append, count_exp1, List.count_nil]
  rw [p, (List.nodup_range).count, (List.nodup_range).count]
  simp only [List.mem_range]
  split <;> split <;> split <;> omega
/-- the work that a line of intervals holds -/
def work : List (Nat × Nat) → Nat
  | [] => 0
  | p :: r => (2 * (p.2 - p.1) + 1) + work r
theorem work_app : ∀ xs ys, work (xs ++ ys) = work xs + work ys
  | [], _ => (Nat.zero_add _).symm
  | p :: r, ys => by
    show _ + work (r ++ ys) = _ + work r + work ys
    rw [work_app r ys, ← Nat.add_assoc]
theorem work_len : ∀ xs, xs.length ≤ work xs
  | [] => Nat.le_refl _
  | p :: r => by
    have := work_len r
    show r.length + 1 ≤ (2 * (p.2 - p.1) + 1) + work r
    omega
theorem work_step {lo hi : Nat} {r : List (Nat × Nat)} (h : lo < hi) : work (((lo, midOf lo hi) :: r) ++ [(midOf lo hi + 1, hi - 1)]) < work ((lo, hi) :: r) := by
  have m1 : lo ≤ midOf lo hi := by unfold midOf; omega
  have m2 : midOf lo hi ≤ hi - 1 := by unfold midOf; omega
  rw [work_app]
  show ((2 * (midOf lo hi - lo) + 1) + work r) + ((2 * (hi - 1 - (midOf lo hi + 1)) + 1) + 0) < (2 * (hi - lo) + 1) + work r
  omega
/-- an item taken off -/
theorem take_off {acc L : List Nat} {n k : Nat} (hk : k < L.length) (p : (acc ++ L).Perm (List.range n)) : ((acc ++ [L[k]]) ++ L.eraseIdx k).Perm (List.range n) := by
  refine List.Perm.trans ?_ p
  rw [List.append_assoc]
  refine List.Perm.append_left acc ?_
  rw [List.eraseIdx_eq_take_drop_succ]
  have e : L = L.take k ++ L[k] :: L.drop (k + 1) := by
    rw [← List.drop_eq_getElem_cons hk, List.take_append_drop]
  have p2 : (L[k] :: (L.take k ++ L.drop (k + 1))).Perm (L.take k ++ L[k] :: L.drop (k + 1)) := List.perm_middle.symm
  rw [← e] at p2
  exact p2
end K36
namespace K36
open L2 PySem
open PySem.Spec PyProof.Rows
/-- the items of a list, one by one -/
inductive All2 {α β : Type} (R : α → β → Prop) : List α → List β → Prop
  | nil : All2 R [] []
  | cons {a : α} {b : β} {as : List α} {bs : List β} : R a b → All2 R as bs → All2 R (a :: as) (b :: bs)
theorem All2.imp {α β : Type} {R S : α → β → Prop} {as : List α} {bs : List β} (h : All2 R as bs) (k : ∀ a b, R a b → S a b) : All2 S as bs := by
  induction h with
  | nil => exact .nil
  | cons h _ ih => exact .cons (k _ _ h) ih
theorem All2.app {α β : Type} {R : α → β → Prop} {as as' : List α} {bs bs' : List β} (h : All2 R as bs) (k : All2 R as' bs') : All2 R (as ++ as') (bs ++ bs') := by
  induction h with
  | nil => exact k
  | cons h _ ih => exact .cons h ih
theorem All2.len {α β : Type} {R : α → β → Prop} {as : List α} {bs : List β} (h : All2 R as bs) : as.length = bs.length := by
  induction h with
  | nil => rfl
  | cons _ _ ih => rw [List.length_cons, List.length_cons, ih]
/-- a pair lo, hi - 1 -/
def IvAt (K : PySem.W.Frag) (H : Hp) (v : V) (p : Nat × Nat) : Prop := ∃ a, v = .ref a ∧ SqT K H a [nV p.1, .int ((p.2 : Nat) - 1 : Int)]
theorem ivs_same {K : PySem.W.Frag} {H H' : Hp} {vs : List V} {ps : List (Nat × Nat)} (h : All2 (IvAt K H) vs ps) (s : Same H H') : All2 (IvAt K H') vs ps :=
  h.imp fun _ _ ⟨a, e, t⟩ => ⟨a, e, s.tup t⟩
theorem ivs_kept {K : PySem.W.Frag} {H H' : Hp} {qs : List Addr} {vs : List V} {ps : List (Nat × Nat)} (h : All2 (IvAt K H) vs ps) (k : Kept qs H H') (n : NotTup qs H) : All2 (IvAt K H') vs ps :=
  h.imp fun _ _ ⟨a, e, t⟩ => ⟨a, e, k.tupN t n⟩
def ivD (p : Nat × Nat) : PyData := .tuple [.int ((p.1 : Nat) : Int), .int ((p.2 : Nat) - 1 : Int)]
theorem dp_ivs {K : PySem.W.Frag} {H : Hp} {vs : List V} {ps : List (Nat × Nat)} (h : All2 (IvAt K H) vs ps) : DpAll K H vs (ps.map ivD) := by
  induction h with
  | nil => exact .nil
  | cons h _ ih =>
    obtain ⟨a, rfl, t⟩ := h
    exact .cons (.tup t (.cons (.int _) (.cons (.int _) .nil))) ih
theorem canLay_ivs : ∀ ps : List (Nat × Nat), PyData.canLayAll0 (ps.map ivD) = true
  | [] => by simp [PyData.canLayAll0]
  | p :: r => by
    rw [List.map_cons, PyData.canLayAll0, canLay_ivs r]
    simp [ivD, PyData.canLay0, PyData.canLayAll0]
theorem depth_ivs : ∀ ps : List (Nat × Nat), PyData.depthAll (ps.map ivD) ≤ 8
  | [] => by simp [PyData.depthAll]
  | p :: r => by
    have := depth_ivs r
    rw [List.map_cons, PyData.depthAll]
    have h2 : (ivD p).depth ≤ 8 := by
      simp only [ivD, PyData.depth, PyData.depthAll]
      omega
    omega
theorem shaped_ivs (ps : List (Nat × Nat)) : SeqAt.shaped (.list (ps.map ivD)) = true := by
  have h1 := depth_ivs ps
  have h2 : PyData.depth (.list (ps.map ivD)) ≤ 64 := by simp only [PyData.depth]; omega
  show (PyData.canLay0 (.list (ps.map ivD)) && decide (PyData.depth (.list (ps.map ivD)) ≤ 64)) = true
  rw [Bool.and_eq_true]
  exact ⟨by simp only [PyData.canLay0]; exact canLay_ivs ps, decide_eq_true h2⟩
theorem eqv_ivs : ∀ ps : List (Nat × Nat), PyData.eqv (.list (ps.map ivD)) (.list []) = decide (ps = [])
  | [] => by
    rw [PyData.eqv]
    simp [PyData.eqvAll]
  | p :: r => by
    rw [PyData.eqv]
    simp [PyData.eqvAll]
theorem rgV_nat (n : Nat) : rgV 0 ((n : Nat) : Int) = (List.range n).map nV := by
  unfold rgV
  rw [show (((n : Nat) : Int) - 0).toNat = n by omega]
  apply List.map_congr_left
  intro i _
  show V.int (0 + ((i : Nat) : Int)) = V.int ((i : Nat) : Int)
  rw [Int.zero_add]
theorem rgOk24 {n : Nat} (h : n ≤ 24) : RgOk 0 ((n : Nat) : Int) := RgOk.of_le (by omega) (by omega) (by omega) (by omega)
theorem eraseIdx_map' {α β : Type} (f : α → β) : ∀ (L : List α) (k : Nat), (L.map f).eraseIdx k = (L.eraseIdx k).map f
  | [], _ => rfl
  | _ :: _, 0 => rfl
  | x :: r, k + 1 => by
    show f x :: (r.map f).eraseIdx k = f x :: (r.eraseIdx k).map f
    rw [eraseIdx_map' f r k]
section
variable {P : Program} {w : World} {K : PySem.W.Frag} {mg : Str → Option Value} {base : Heap}
def spOrder (K : PySem.W.Frag) : Sp := fun vs H Q _ => ∃ (st : Addr) (z : Int) (n : Nat), vs = [.ref st, nV n] ∧ H st = some (.lst [.int z]) ∧ 1 ≤ n ∧ n ≤ 24 ∧
  ∀ (o : List Nat) q z' H', o.Perm (List.range n) → H q = none → H' q = some (.lst (o.map nV)) → H' st = some (.lst [.int z']) → Kept [st] H H' → Q (.ref q) H'
theorem ok_order (T : Txt w K mg) : FnAt P w K mg base 2 "_law_order" ["_law_state_here", "_law_many"] (spOrder K) := by
  have g__law_next : FnAt P w K mg base 1 _ _ spNext := ok_next T
  refine FnAt.of T.f__law_order sc__law_order (fun _ _ _ _ _ _ us hl => match us, hl with | [_, _], _ => rfl) (fun vs H Q E h => ?_) (fun cdv A outer s H vs Q E hr h => ?_)
  · obtain ⟨st, z, n, rfl, _⟩ := h
    rfl
  · obtain ⟨st, z, n, rfl, hz, n1, n24, q⟩ := h
    refine ⟨_, (pss_cons (ps_par (i := 3) (j := 4) rfl sc__law_order.nd rfl rfl (by decide) rfl rfl (pa_cons (pe_cal g__law_next hr (by decide) (pa_cons (pv 0) (pa_cons pe_int pa_nil))) (pa_cons (pe_op op_add pe_int (pe_cal g__law_next hr (by decide) (pa_cons (pv 0) (pa_cons pe_int pa_nil)))) pa_nil)) (by rfl))
      (pss_cons (ps_if (pt_cmpR op_eq (pv 3) pe_int (nomark _)) (pss_one (ps_ret (pe_listRg rfl (by rfl) T.z_list (prg_1 (by rfl) T.z_range (pv 1))))) pss_nil)
      (pss_cons (ps_if (pt_cmpR op_eq (pv 3) pe_int (nomark _)) (pss_cons (ps_set (i := 5) sc__law_order.nd rfl (Or.inr rfl) (pe_listRg rfl (by rfl) T.z_list (prg_1 (by rfl) T.z_range (pv 1))))
      (pss_one (ps_ret (pe_lc (own := [("_law_k", 11)]) (te := tBM K "list" rPopAt (tVar 5) (tCons (tCall spNext [] E0 (tCons (tVar 0) (tCons (tCB (rLenS K) (tCons (tVar 5) tNil)) tNil))) tNil)) rfl sc__law_order.nd (pi_range1 (by rfl) T.z_range (pa_cons (pv 1) pa_nil)) (blkOk_by (own := [("_law_k", 11)]) (N := N__law_order) (sc := defScope s__law_order) (by decide +kernel)) (fun _ _ _ _ _ => (pg_name (i := 11) sc__law_order.nd rfl (Or.inl rfl))) (fun _ _ _ _ _ => pts_nil) (fun _ _ _ _ _ => (pe_bm PySem.F.plainAttrs_list PySem.F.slot_list_pop PySem.F.type_list_pop mt_popAt (pv 5) (pa_cons (pe_cal g__law_next hr (by decide) (pa_cons (pv 0) (pa_cons (pe_callB (callK_len K) (by rfl) T.z_len PySem.boot_len (pa_cons (pv 5) pa_nil)) pa_nil))) pa_nil))))))) pss_nil)
      (pss_cons (ps_par (i := 2) (j := 6) rfl sc__law_order.nd rfl rfl (by decide) rfl rfl (pa_cons (pe_lst pa_nil) (pa_cons pe_int pa_nil)) (by rfl))
      (pss_cons (ps_while PassesOwn.never (pt_cmpR op_lt (pv 6) (pv 1) (nomark _)) (pss_cons (ps_set (i := 7) sc__law_order.nd rfl (Or.inl rfl) (pe_callB (call_min2 rfl) (by rfl) T.z_min bb_min (pa_cons (pv 1) (pa_cons (pe_op op_add (pv 6) (pv 4)) pa_nil))))
      (pss_cons (ps_set (i := 8) sc__law_order.nd rfl (Or.inl rfl) (pe_lst (pa_cons (pe_tup (pa_cons (pv 6) (pa_cons (pe_op op_sub (pv 7) pe_int) pa_nil))) pa_nil)))
      (pss_cons (ps_while PassesOwn.never (pt_cmpR (op_neD hr.units) (pv 8) (pe_lst pa_nil) (nomark _)) (pss_cons (ps_asg (pe_bm PySem.F.plainAttrs_list PySem.F.slot_list_pop PySem.F.type_list_pop mt_popAt (pv 8) (pa_cons pe_int pa_nil)) (pg_tup2 K (pg_name (i := 9) sc__law_order.nd rfl (Or.inl rfl)) (pg_name (i := 10) sc__law_order.nd rfl (Or.inl rfl))))
      (pss_one (ps_if (pt_cmpR op_le (pv 9) (pv 10) (nomark _)) (pss_cons (ps_expr (pe_bm PySem.F.plainAttrs_list PySem.F.slot_list_append PySem.F.type_list_append mt_append (pv 2) (pa_cons (pv 10) pa_nil)))
      (pss_cons (ps_set (i := 8) sc__law_order.nd rfl (Or.inl rfl) (pe_op op_cat (pe_op op_cat (pe_lst (pa_cons (pe_tup (pa_cons (pv 9) (pa_cons (pe_op op_sub (pe_op op_fdiv (pe_op op_add (pv 9) (pv 10)) pe_int) pe_int) pa_nil))) pa_nil)) (pv 8)) (pe_lst (pa_cons (pe_tup (pa_cons (pe_op op_add (pe_op op_fdiv (pe_op op_add (pv 9) (pv 10)) pe_int) pe_int) (pa_cons (pe_op op_sub (pv 10) pe_int) pa_nil))) pa_nil))))
      (pss_one (ps_if (pt_cmpR op_lt (pe_op op_fdiv (pe_op op_add (pv 9) (pv 10)) pe_int) (pv 10) (nomark _)) (pss_one (ps_expr (pe_bm PySem.F.plainAttrs_list PySem.F.slot_list_append PySem.F.type_list_append mt_append (pv 2) (pa_cons (pe_op op_fdiv (pe_op op_add (pv 9) (pv 10)) pe_int) pa_nil)))) pss_nil)))) pss_nil))))
      (pss_one (ps_set (i := 6) sc__law_order.nd rfl (Or.inl rfl) (pv 7)))))))
      (pss_one (ps_ret (pv 2)))))))), ?_⟩
    refine ⟨_, rfl, st, z, 3, rfl, hz, by decide, by decide, fun way z1 w0 w1 => ?_⟩
    refine ⟨_, rfl, st, z1, 8, rfl, upd_same, by decide, by decide, fun sz z2 c0 c1 => ⟨_, _, rfl, rfl, _, _, rfl, ?_⟩⟩
    rw [upd_upd]
    have k1 : Kept [st] H (upd H st (.lst [.int z2])) := kept_upd (by simp)
    have st1 : (upd H st (.lst [.int z2])) st = some (.lst [.int z2]) := upd_same
    generalize (upd H st (.lst [.int z2])) = H1 at k1 st1
    obtain ⟨sn, rfl⟩ := Int.eq_ofNat_of_zero_le c0
    have fresh : ∀ {H2 : Hp}, Kept [st] H1 H2 → ∀ {r}, H2 r = none → r ≠ st → H r = none := fun {H2} k {r} hr n => (k1.trans k).none hr (by simpa using n)
    refine ⟨_, rfl, rfl, _, rfl, iteD (fun _ => ?_) fun _ => ?_⟩
    · refine ⟨_, rfl, _, rfl, rgOk24 n24, fun r hr => ?_⟩
      have nst : r ≠ st := (ne_of_none st1 hr).symm
      refine q (List.range n) r z2 _ (List.Perm.refl _) (fresh (H2 := H1) (Same.refl _).kept hr nst) (by rw [upd_same, rgV_nat]) (by rw [upd_ne nst.symm]; exact st1) (k1.trans (kept_new hr))
    refine ⟨_, rfl, rfl, _, rfl, iteD (fun _ => ?_) fun _ => ?_⟩
    · refine ⟨_, rfl, _, rfl, rgOk24 n24, fun lf hlf => ?_⟩
      have s2 : Same H1 (upd H1 lf (.lst (rgV 0 ((n : Nat) : Int)))) := same_new hlf
      have lf2 : (upd H1 lf (.lst (rgV 0 ((n : Nat) : Int)))) lf = some (.lst ((List.range n).map nV)) := by rw [upd_same, rgV_nat]
      have nlf : lf ≠ st := (ne_of_none st1 hlf).symm
      have st2 := s2 _ _ st1
      generalize (upd H1 lf (.lst (rgV 0 ((n : Nat) : Int)))) = H2 at s2 lf2 st2
      refine ⟨_, rfl, n, rfl, by omega, by omega, fun D hD => ?_⟩
      have nD : D ≠ st := (ne_of_none st2 hD).symm
      have nDl : D ≠ lf := (ne_of_none lf2 hD).symm
      refine lc_it walk_range (fun i H' => ∃ (L acc : List Nat) (z3 : Int), H' lf = some (.lst (L.map nV)) ∧ (acc ++ L).Perm (List.range n) ∧ L.length + i = n ∧ acc.length = i ∧ H' D = some (.lst (acc.map nV)) ∧ H' st = some (.lst [.int z3]) ∧ Kept [st, lf] H2 H')
        ⟨List.range n, [], z2, by rw [upd_ne nDl.symm]; exact lf2, List.Perm.refl _, by simp, rfl, upd_same, by rw [upd_ne nD.symm]; exact st2, kept_new hD⟩ (fun _ _ _ _ => trivial) ?_ ?_
      · rintro i x H0 H' hi ⟨L, acc, z3, hL, hp, hl, ha, hd, hst, k3⟩ ⟨rfl, rfl⟩
        have hi2 : i < n := by simpa using hi
        refine ⟨rfl, t_yes (iteT ?_)⟩
        refine ⟨_, rfl, .inl ⟨rfl, _, .of hL⟩, _, rfl, _, rfl, lf, _, rfl, .inl (.of hL), ?_⟩
        refine ⟨st, z3, _, rfl, hst, by rw [List.length_map]; omega, by rw [List.length_map]; omega, fun r z4 r0 r1 => ?_⟩
        obtain ⟨k, rfl⟩ := Int.eq_ofNat_of_zero_le r0
        have hk : k < L.length := by
          rw [List.length_map] at r1
          omega
        have lf4 : (upd H' st (.lst [.int z4])) lf = some (.lst (L.map nV)) := by rw [upd_ne nlf]; exact hL
        refine ⟨lf, L.map nV, k, k, nV L[k], rfl, rfl, lf4, by omega, by omega, ?_, ?_, ?_⟩
        · have := seqIndex_of (show (0 : Int) ≤ ((k : Nat) : Int) by omega) (show ((k : Nat) : Int) < (((L.map nV).length : Nat) : Int) by rw [List.length_map]; omega)
          simpa using this
        · rw [List.getElem?_map, List.getElem?_eq_getElem hk]
          rfl
        · refine ⟨acc.map nV, ?_, ?_, L.eraseIdx k, acc ++ [L[k]], z4, ?_, take_off hk hp, ?_, ?_, ?_, ?_, ?_⟩
          · rw [upd_ne nDl, upd_ne nD]
            exact hd
          · rw [List.length_map]
            exact small1000 (by omega)
          · rw [upd_ne nDl.symm, upd_same, eraseIdx_map']
          · rw [List.length_eraseIdx, if_pos hk]
            omega
          · rw [List.length_append, ha]
            rfl
          · rw [upd_same, List.map_append]
            rfl
          · rw [upd_ne nD.symm, upd_ne nlf.symm, upd_same]
          · intro b o e nb
            simp only [List.mem_cons, List.not_mem_nil, or_false, not_or] at nb
            rw [upd_ne (ne_of_none e hD), upd_ne nb.2, upd_ne nb.1]
            exact k3 _ _ e (by simp [nb.1, nb.2])
      · rintro H' ⟨L, acc, z3, hL, hp, hl, ha, hd, hst, k3⟩
        have hL0 : L = [] := List.length_eq_zero_iff.mp (by
          have : L.length + (((n : Nat) : Int)).toNat = n := hl
          simpa using this)
        subst hL0
        rw [List.append_nil] at hp
        have zlf : H lf = none := fresh (H2 := H1) (Same.refl _).kept hlf nlf
        have zD : H D = none := fresh s2.kept hD nD
        refine q acc D z3 H' hp zD hd hst fun b o e nb => ?_
        have nb2 : b ≠ st := by simpa using nb
        have nb3 : b ≠ lf := fun z => by rw [z, zlf] at e; cases e
        exact k3 _ _ (s2 _ _ (k1 _ _ e nb)) (by simp [nb2, nb3])
    · refine ⟨line_le 0, fun fa hfa => ⟨_, _, rfl, ?_⟩⟩
      have nfa : fa ≠ st := (ne_of_none st1 hfa).symm
      have faU : ∀ {H2 : Hp}, Same H1 H2 → ∀ {o}, Same H1 (upd H2 fa o) := fun {H2} s {o} b x e => by
        rw [upd_ne (ne_of_none e hfa)]
        exact s _ _ e
      refine ⟨fun k σ H' => ∃ (f : Nat) (F : List Nat) (x1 x2 x3 x4 : Option V), σ = [some (.ref st), some (nV n), some (.ref fa), some (.int way), some (.int (1 + (sn : Int))), none, some (nV f), x1, x2, x3, x4, none] ∧ k + f = n ∧ F.Perm (List.range f) ∧ H' fa = some (.lst (F.map nV)) ∧ Same H1 H',
        ⟨n, 0, [], _, _, _, _, rfl, rfl, List.Perm.refl _, upd_same, same_new hfa⟩, ?_⟩
      rintro k σ H' ⟨f, F, x1, x2, x3, x4, rfl, hk, hp, hf, s1⟩
      refine ⟨_, rfl, _, rfl, _, _, rfl, rfl, _, rfl, iteD (fun h1 => ?_) fun h1 => ?_⟩
      · have hfn : f < n := by
          have : (f : Int) < (n : Int) := h1
          omega
        obtain ⟨la, el, l1, l2⟩ : ∃ la : Nat, (if ((f : Nat) : Int) + (1 + (sn : Int)) < ((n : Nat) : Int) then ((f : Nat) : Int) + (1 + (sn : Int)) else ((n : Nat) : Int)) = ((la : Nat) : Int) ∧ f < la ∧ la ≤ n := by
          by_cases c : ((f : Nat) : Int) + (1 + (sn : Int)) < ((n : Nat) : Int)
          · exact ⟨f + (1 + sn), by rw [if_pos c]; omega, by omega, by omega⟩
          · exact ⟨n, by rw [if_neg c], hfn, Nat.le_refl _⟩
        refine ⟨fun σ' H2 => ∃ (F : List Nat) (x1 x2 x3 x4 : Option V), σ' = [some (.ref st), some (nV n), some (.ref fa), some (.int way), some (.int (1 + (sn : Int))), none, some (nV la), x1, x2, x3, x4, none] ∧ F.Perm (List.range la) ∧ H2 fa = some (.lst (F.map nV)) ∧ Same H1 H2, ?_, ?_⟩
        · rintro σ' H2 ⟨F2, y1, y2, y3, y4, rfl, p2, f2, s2⟩
          exact ⟨n - la, by omega, la, F2, y1, y2, y3, y4, rfl, by omega, p2, f2, s2⟩
        · refine ⟨_, rfl, _, rfl, _, rfl, _, _, rfl, rfl, _, _, rfl, ?_⟩
          rw [el]
          refine ⟨_, rfl, _, rfl, _, _, rfl, rfl, line_le 2, fun t0 ht0 => ⟨line_le 1, fun ln hln => ?_⟩⟩
          have s3 : Same H' (upd H' t0 (.tup [nV f, .int ((la : Nat) - 1 : Int)])) := same_new ht0
          have s4 : Same (upd H' t0 (.tup [nV f, .int ((la : Nat) - 1 : Int)])) (upd (upd H' t0 (.tup [nV f, .int ((la : Nat) - 1 : Int)])) ln (.lst [.ref t0])) := same_new hln
          have zln : H1 ln = none := by
            cases e : H1 ln with
            | none => rfl
            | some o => rw [s3 _ _ (s1 _ _ e)] at hln; cases hln
          have nln : ln ≠ fa := (ne_of_none (s3 _ _ hf) hln).symm
          refine ⟨fun k σ H2 => ∃ (Ls : List (Nat × Nat)) (F : List Nat) (vs : List V) (ln : Addr) (y1 y2 : Option V), σ = [some (.ref st), some (nV n), some (.ref fa), some (.int way), some (.int (1 + (sn : Int))), none, some (nV f), some (nV la), some (.ref ln), y1, y2, none] ∧ work Ls = k ∧ k ≤ 60 ∧
              (F ++ expand Ls).Perm (List.range la) ∧ H2 fa = some (.lst (F.map nV)) ∧ H2 ln = some (.lst vs) ∧ All2 (IvAt K H2) vs Ls ∧ Same H1 H2 ∧ H1 ln = none ∧ ln ≠ fa,
            ⟨_, [(f, la)], F, [.ref t0], ln, _, _, rfl, rfl, ?_, order_next (by omega) hp, s4 _ _ (s3 _ _ hf), upd_same, .cons ⟨t0, rfl, s4.tup (.of upd_same)⟩ .nil, (s1.trans s3).trans s4, zln, nln⟩, ?_⟩
          · show (2 * (la - f) + 1) + 0 ≤ 60
            omega
          clear s3 s4 zln nln hln ht0
          rintro k σ H2 ⟨Ls, F, vs, ln, y1, y2, rfl, hw, k60, hp, hf, hln, hvs, s2, zln, nln⟩
          refine ⟨_, rfl, line_le 0, fun e0 he0 => ?_⟩
          have s3 : Same H2 (upd H2 e0 (.lst [])) := same_new he0
          refine ⟨.list (Ls.map ivD), .list [], .lst (.of (s3 _ _ hln)) (dp_ivs (ivs_same hvs s3)), .lst (.of upd_same) .nil, shaped_ivs _, shaped_ivs [], ?_⟩
          rw [eqv_ivs]
          have hf3 := s3 _ _ hf
          have hln3 := s3 _ _ hln
          have hvs3 := ivs_same hvs s3
          have S3 := s2.trans s3
          generalize (upd H2 e0 (.lst [])) = H3 at s3 hf3 hln3 hvs3 S3
          have lnU : ∀ {H2 : Hp}, Same H1 H2 → ∀ {o}, Same H1 (upd H2 ln o) := fun {H2} s {o} b x e => by
            rw [upd_ne (ne_of_none e zln)]
            exact s _ _ e
          have lenF : F.length ≤ 24 := by
            have := hp.length_eq
            rw [List.length_append, List.length_range] at this
            omega
          refine ⟨_, rfl, iteN (fun h0 => ?_) fun h0 => ?_⟩
          · subst h0
            refine ⟨_, rfl, F, _, _, _, _, rfl, ?_, hf3, S3⟩
            have e : F ++ expand [] = F := List.append_nil F
            rw [e] at hp
            exact hp
          · cases hvs3 with
            | nil => exact absurd rfl h0
            | @cons v pr vr r hv hr =>
              obtain ⟨lo, hi⟩ := pr
              obtain ⟨a, rfl, ha⟩ := hv
              have ha : SqT K H3 a [nV lo, .int ((hi : Nat) - 1 : Int)] := ha
              have hlen : vr.length ≤ 60 := by
                have e1 := hr.len
                have e2 := work_len r
                have e3 : work ((lo, hi) :: r) = (2 * (hi - lo) + 1) + work r := rfl
                omega
              refine ⟨fun σ' H2 => ∃ (Ls : List (Nat × Nat)) (F : List Nat) (vs : List V) (ln : Addr) (y1 y2 : Option V), σ' = [some (.ref st), some (nV n), some (.ref fa), some (.int way), some (.int (1 + (sn : Int))), none, some (nV f), some (nV la), some (.ref ln), y1, y2, none] ∧ work Ls < k ∧
                (F ++ expand Ls).Perm (List.range la) ∧ H2 fa = some (.lst (F.map nV)) ∧ H2 ln = some (.lst vs) ∧ All2 (IvAt K H2) vs Ls ∧ Same H1 H2 ∧ H1 ln = none ∧ ln ≠ fa, ?_, ?_⟩
              · rintro σ' H4 ⟨Ls, F, vs, ln, y1, y2, rfl, hw, hp, h1, h2, h3, h4, h5, h6⟩
                exact ⟨_, hw, Ls, F, vs, ln, y1, y2, rfl, rfl, by omega, hp, h1, h2, h3, h4, h5, h6⟩
              refine ⟨_, rfl, .inl ⟨rfl, _, .of hln3⟩, ln, _, 0, 0, .ref a, rfl, rfl, hln3, by decide, by decide, seqIndex_of (show (0 : Int) ≤ 0 by decide) (show (0 : Int) < (((V.ref a :: vr).length : Nat) : Int) by rw [List.length_cons]; omega), rfl, ?_⟩
              have k4 : Kept [ln] H3 (upd H3 ln (.lst ((V.ref a :: vr).eraseIdx 0))) := kept_upd (by simp)
              have n4 := notTup_l hln3
              have S4 : Same H1 (upd H3 ln (.lst ((V.ref a :: vr).eraseIdx 0))) := lnU S3
              have hf4 : (upd H3 ln (.lst ((V.ref a :: vr).eraseIdx 0))) fa = some (.lst (F.map nV)) := by rw [upd_ne nln.symm]; exact hf3
              have hln4 : (upd H3 ln (.lst ((V.ref a :: vr).eraseIdx 0))) ln = some (.lst vr) := upd_same
              generalize (upd H3 ln (.lst ((V.ref a :: vr).eraseIdx 0))) = H4 at k4 S4 hf4 hln4
              have ha4 := k4.tupN ha n4
              have hr4 := ivs_kept hr k4 n4
              refine ⟨a, _, rfl, ha4, rfl, _, _, rfl, _, _, rfl, rfl, ?_⟩
              refine ⟨_, rfl, _, rfl, _, _, rfl, rfl, _, rfl, iteD (fun hle => ?_) fun hle => ?_⟩
              · have hlh : lo < hi := by
                  have : ((lo : Nat) : Int) ≤ ((hi : Nat) - 1 : Int) := hle
                  omega
                have hi0 : ((hi : Nat) : Int) - 1 = ((hi - 1 : Nat) : Int) := by omega
                have emid : (((lo : Nat) : Int) + (((hi : Nat) : Int) - 1)) / 2 = ((midOf lo hi : Nat) : Int) := by
                  unfold midOf
                  omega
                refine ⟨_, rfl, .inl ⟨rfl, _, .of hf4⟩, _, rfl, fa, _, _, rfl, rfl, hf4, by rw [List.length_map]; exact small1000 (by omega), ?_⟩
                have k5 : Kept [fa] H4 (upd H4 fa (.lst (F.map nV ++ [.int ((hi : Nat) - 1 : Int)]))) := kept_upd (by simp)
                have n5 := notTup_l hf4
                have S5 : Same H1 (upd H4 fa (.lst (F.map nV ++ [.int ((hi : Nat) - 1 : Int)]))) := faU S4
                have hf5 : (upd H4 fa (.lst (F.map nV ++ [.int ((hi : Nat) - 1 : Int)]))) fa = some (.lst ((F ++ [hi - 1]).map nV)) := by
                  rw [upd_same, List.map_append, hi0]
                  rfl
                have hln5 : (upd H4 fa (.lst (F.map nV ++ [.int ((hi : Nat) - 1 : Int)]))) ln = some (.lst vr) := by rw [upd_ne nln]; exact hln4
                generalize (upd H4 fa (.lst (F.map nV ++ [.int ((hi : Nat) - 1 : Int)]))) = H5 at k5 S5 hf5 hln5
                have hr5 := ivs_kept hr4 k5 n5
                refine ⟨_, rfl, _, rfl, _, rfl, _, _, rfl, rfl, _, _, rfl, rfl, ⟨by decide, by decide⟩, _, _, rfl, rfl, line_le 2, fun t1 ht1 => ⟨line_le 1, fun l1 hl1 => ?_⟩⟩
                rw [emid] at hl1 ⊢
                have s6 : Same H5 (upd H5 t1 (.tup [nV lo, .int ((midOf lo hi : Nat) - 1 : Int)])) := same_new ht1
                have e6 : (upd H5 t1 (.tup [nV lo, .int ((midOf lo hi : Nat) - 1 : Int)])) t1 = some (.tup [nV lo, .int ((midOf lo hi : Nat) - 1 : Int)]) := upd_same
                generalize (upd H5 t1 (.tup [nV lo, .int ((midOf lo hi : Nat) - 1 : Int)])) = H6 at s6 e6 hl1 ⊢
                have s7 : Same H6 (upd H6 l1 (.lst [.ref t1])) := same_new hl1
                have e7 : (upd H6 l1 (.lst [.ref t1])) l1 = some (.lst [.ref t1]) := upd_same
                generalize (upd H6 l1 (.lst [.ref t1])) = H7 at s7 e7 ⊢
                refine ⟨_, rfl, l1, ln, _, _, rfl, rfl, e7, s7 _ _ (s6 _ _ hln5), line_le' (by show 1 + vr.length ≤ 1000; omega), fun l2 hl2 => ?_⟩
                have s8 : Same H7 (upd H7 l2 (.lst ([.ref t1] ++ vr))) := same_new hl2
                have e8 : (upd H7 l2 (.lst ([.ref t1] ++ vr))) l2 = some (.lst ([.ref t1] ++ vr)) := upd_same
                generalize (upd H7 l2 (.lst ([.ref t1] ++ vr))) = H8 at s8 e8 ⊢
                refine ⟨_, rfl, _, rfl, _, _, rfl, rfl, _, _, rfl, rfl, ⟨by decide, by decide⟩, _, _, rfl, rfl, _, rfl, _, _, rfl, rfl, line_le 2, fun t2 ht2 => ⟨line_le 1, fun l3 hl3 => ?_⟩⟩
                rw [emid] at hl3 ⊢
                have s9 : Same H8 (upd H8 t2 (.tup [.int ((midOf lo hi : Nat) + 1 : Int), .int ((hi : Nat) - 1 - 1 : Int)])) := same_new ht2
                have e9 : (upd H8 t2 (.tup [.int ((midOf lo hi : Nat) + 1 : Int), .int ((hi : Nat) - 1 - 1 : Int)])) t2 = some (.tup [.int ((midOf lo hi : Nat) + 1 : Int), .int ((hi : Nat) - 1 - 1 : Int)]) := upd_same
                generalize (upd H8 t2 (.tup [.int ((midOf lo hi : Nat) + 1 : Int), .int ((hi : Nat) - 1 - 1 : Int)])) = H9 at s9 e9 hl3 ⊢
                have s10 : Same H9 (upd H9 l3 (.lst [.ref t2])) := same_new hl3
                have e10 : (upd H9 l3 (.lst [.ref t2])) l3 = some (.lst [.ref t2]) := upd_same
                generalize (upd H9 l3 (.lst [.ref t2])) = H10 at s10 e10 ⊢
                refine ⟨l2, l3, _, _, rfl, rfl, s10 _ _ (s9 _ _ e8), e10, line_le' (by rw [List.length_append]; show (1 + vr.length) + 1 ≤ 1000; omega), fun l4 hl4 => ?_⟩
                have s11 : Same H10 (upd H10 l4 (.lst (([.ref t1] ++ vr) ++ [.ref t2]))) := same_new hl4
                have e11 : (upd H10 l4 (.lst (([.ref t1] ++ vr) ++ [.ref t2]))) l4 = some (.lst (([.ref t1] ++ vr) ++ [.ref t2])) := upd_same
                have s5A : Same H5 H10 := (((s6.trans s7).trans s8).trans s9).trans s10
                have zl4 : H1 l4 = none := by
                  cases e : H1 l4 with
                  | none => rfl
                  | some o => rw [s5A _ _ (S5 _ _ e)] at hl4; cases hl4
                have nl4 : l4 ≠ fa := (ne_of_none (s5A _ _ hf5) hl4).symm
                generalize (upd H10 l4 (.lst (([.ref t1] ++ vr) ++ [.ref t2]))) = H11 at s11 e11 ⊢
                have s5B := s5A.trans s11
                have hf11 := s5B _ _ hf5
                have S11 := S5.trans s5B
                have iv1 : IvAt K H11 (.ref t1) (lo, midOf lo hi) := ⟨t1, rfl, .of (s11 _ _ (s10 _ _ (s9 _ _ (s8 _ _ (s7 _ _ e6)))))⟩
                have iv2 : IvAt K H11 (.ref t2) (midOf lo hi + 1, hi - 1) := by
                  refine ⟨t2, rfl, .of ?_⟩
                  have e12 := s11 _ _ (s10 _ _ e9)
                  rw [hi0] at e12
                  exact e12
                have hv11 : All2 (IvAt K H11) (([.ref t1] ++ vr) ++ [.ref t2]) (((lo, midOf lo hi) :: r) ++ [(midOf lo hi + 1, hi - 1)]) :=
                  All2.app (.cons iv1 (ivs_same hr5 s5B)) (.cons iv2 .nil)
                have hp11 := order_step hlh hp
                have hw11 : work (((lo, midOf lo hi) :: r) ++ [(midOf lo hi + 1, hi - 1)]) < k := by
                  have := work_step (r := r) hlh
                  omega
                refine ⟨_, rfl, _, rfl, _, _, rfl, rfl, _, _, rfl, rfl, ⟨by decide, by decide⟩, _, rfl, _, _, rfl, rfl, _, rfl, ?_⟩
                rw [emid]
                refine iteD (fun hm => ?_) fun hm => ?_
                · have hm2 : midOf lo hi < hi - 1 := by
                    have : ((midOf lo hi : Nat) : Int) < ((hi : Nat) : Int) - 1 := hm
                    omega
                  have eh : heads lo hi = [hi - 1, midOf lo hi] := if_pos hm2
                  rw [eh] at hp11
                  refine ⟨_, rfl, .inl ⟨rfl, _, .of hf11⟩, _, rfl, _, rfl, _, _, rfl, rfl, _, _, rfl, rfl, ⟨by decide, by decide⟩, fa, _, _, rfl, rfl, hf11, by rw [List.length_map, List.length_append]; exact small1000 (by show F.length + 1 ≤ 1000; omega), ?_⟩
                  refine ⟨_, _, _, l4, _, _, rfl, hw11, hp11, ?_, by rw [upd_ne nl4]; exact e11, ivs_kept hv11 (kept_upd (by simp)) (notTup_l hf11), faU S11, zl4, nl4⟩
                  rw [upd_same, show F ++ [hi - 1, midOf lo hi] = (F ++ [hi - 1]) ++ [midOf lo hi] by simp, List.map_append (l₁ := F ++ [hi - 1])]
                  show some (HO.lst (_ ++ [V.int ((((lo : Nat) : Int) + (((hi : Nat) : Int) - 1)) / 2)])) = some (HO.lst (_ ++ [nV (midOf lo hi)]))
                  rw [emid]
                · have hm2 : ¬ midOf lo hi < hi - 1 := by
                    have : ¬ ((midOf lo hi : Nat) : Int) < ((hi : Nat) : Int) - 1 := hm
                    omega
                  have eh : heads lo hi = [hi - 1] := if_neg hm2
                  rw [eh] at hp11
                  exact ⟨_, _, _, l4, _, _, rfl, hw11, hp11, hf11, e11, hv11, S11, zl4, nl4⟩
              · have hlh : ¬ lo < hi := by
                  have : ¬ ((lo : Nat) : Int) ≤ ((hi : Nat) - 1 : Int) := hle
                  omega
                refine ⟨r, F, vr, ln, _, _, rfl, ?_, order_skip hlh hp, hf4, hln4, hr4, S4, zln, nln⟩
                have e3 : work ((lo, hi) :: r) = (2 * (hi - lo) + 1) + work r := rfl
                omega
      · have hfn : f = n := by
          have : ¬ (f : Int) < (n : Int) := h1
          omega
        subst hfn
        refine ⟨_, rfl, q F fa z2 H' hp (fresh (H2 := H1) (Same.refl _).kept hfa nfa) hf (s1 _ _ st1) (k1.trans s1.kept)⟩
end
end K36
namespace K36
open L2 PySem
open PySem.Spec PyProof.Rows
/-! ### a web that grows -/
theorem laidN_pre (us : List WU) (x : WU) : ∀ j, j ≤ us.length → laidN (us ++ [x]) j = laidN us j
  | 0, _ => rfl
  | j + 1, h => by
    show (match (us ++ [x])[j]? with | some u => laidAfter (laidN (us ++ [x]) j) u.writes j | none => laidN (us ++ [x]) j) = (match us[j]? with | some u => laidAfter (laidN us j) u.writes j | none => laidN us j)
    rw [laidN_pre us x j (by omega), List.getElem?_append_left (by omega)]
theorem laidN_new (us : List WU) (x : WU) : laidN (us ++ [x]) (us.length + 1) = laidAfter (laidN us us.length) x.writes us.length := by
  show (match (us ++ [x])[us.length]? with | some u => laidAfter (laidN (us ++ [x]) us.length) u.writes us.length | none => laidN (us ++ [x]) us.length) = _
  rw [laidN_pre us x us.length (Nat.le_refl _), List.getElem?_append_right (Nat.le_refl _), Nat.sub_self]
  rfl
/-- a web in the making: the ticks from first on in steps of gap by the order -/
structure WebP (us : List WU) (fi ga : Nat) (o : List Nat) : Prop where
  ok : ∀ (i : Nat) (x : WU), us[i]? = some x → x.Ok
  laid : Laid us
  ticks : us.map WU.tick = (o.take us.length).map fun k => fi + ga * k
theorem WebP.nil (fi ga : Nat) (o : List Nat) : WebP [] fi ga o := ⟨fun i x h => by simp at h, fun i x h => by simp at h, rfl⟩
theorem WebP.grow {us : List WU} {fi ga k : Nat} {o : List Nat} (h : WebP us fi ga o) {x : WU} (hk : o[us.length]? = some k) (ht : x.tick = fi + ga * k) (ok : x.Ok) (hl : ∀ s ∈ x.slots, ∃ y, (laidN us us.length)[s]? = some (some y)) : WebP (us ++ [x]) fi ga o := by
  have at' : ∀ {i : Nat} {y : WU}, (us ++ [x])[i]? = some y → (i < us.length ∧ us[i]? = some y) ∨ (i = us.length ∧ y = x) := fun {i y} e => by
    by_cases c : i < us.length
    · rw [List.getElem?_append_left c] at e
      exact .inl ⟨c, e⟩
    · have c2 := (List.getElem?_eq_some_iff.mp e).1
      rw [List.length_append] at c2
      have c3 : i = us.length := by
        have : [x].length = 1 := rfl
        omega
      subst c3
      rw [List.getElem?_append_right (Nat.le_refl _), Nat.sub_self] at e
      exact .inr ⟨rfl, (Option.some.inj e).symm⟩
  refine ⟨fun i y e => ?_, fun i y e s hs => ?_, ?_⟩
  · rcases at' e with ⟨_, e⟩ | ⟨_, rfl⟩
    · exact h.ok i y e
    · exact ok
  · rcases at' e with ⟨c, e⟩ | ⟨rfl, rfl⟩
    · rw [laidN_pre us x i (by omega)]
      exact h.laid i y e s hs
    · rw [laidN_pre us y _ (Nat.le_refl _)]
      exact hl s hs
  · rw [List.map_append, h.ticks, List.length_append]
    show _ = (o.take (us.length + 1)).map _
    rw [take_next hk, List.map_append]
    show _ ++ [x.tick] = _ ++ [fi + ga * k]
    rw [ht]
theorem WebP.web {us : List WU} {fi ga n : Nat} {o : List Nat} (h : WebP us fi ga o) (hp : o.Perm (List.range n)) (hl : us.length = n) (n1 : 1 ≤ n) (n24 : n ≤ 24) (hg : 1 ≤ ga) : Web us := by
  have ol : o.length = n := by rw [hp.length_eq, List.length_range]
  refine ⟨by omega, by omega, h.ok, h.laid, ?_⟩
  rw [h.ticks, List.take_of_length_le (by omega)]
  have nd : o.Nodup := hp.nodup_iff.mpr List.nodup_range
  refine List.pairwise_map.mpr (List.Pairwise.imp (fun {a b} hab e => hab ?_) nd)
  have e2 : ga * a = ga * b := by
    have : fi + ga * a = fi + ga * b := e
    omega
  exact Nat.eq_of_mul_eq_mul_left (by omega) e2
/-- the slots that are laid -/
def fullOf (laid : List (Option Nat)) : List Nat := (List.range 4).filter fun s => ((laid[s]?).join).isSome
theorem mem_full {laid : List (Option Nat)} {s : Nat} (h : s ∈ fullOf laid) : s < 4 ∧ ∃ y, laid[s]? = some (some y) := by
  unfold fullOf at h
  obtain ⟨h1, h2⟩ := List.mem_filter.mp h
  refine ⟨List.mem_range.mp h1, ?_⟩
  cases e : laid[s]? with
  | none => rw [e] at h2; cases h2
  | some o =>
    cases o with
    | none => rw [e] at h2; cases h2
    | some y => exact ⟨y, rfl⟩
/-- a unit in the law's own list -/
def WuAt (K : PySem.W.Frag) (H : Hp) (v : V) (x : WU) : Prop := ∃ a s, v = .ref a ∧ SqT K H a [nV x.tick, .ref s, oV x.writes] ∧ SqT K H s (x.slots.map nV)
theorem wus_same {K : PySem.W.Frag} {H H' : Hp} {vs : List V} {us : List WU} (h : All2 (WuAt K H) vs us) (s : Same H H') : All2 (WuAt K H') vs us := h.imp fun _ _ ⟨a, b, e, t, u⟩ => ⟨a, b, e, s.tup t, s.tup u⟩
theorem wus_kept {K : PySem.W.Frag} {H H' : Hp} {qs : List Addr} {vs : List V} {us : List WU} (h : All2 (WuAt K H) vs us) (k : Kept qs H H') (n : NotTup qs H) : All2 (WuAt K H') vs us := h.imp fun _ _ ⟨a, b, e, t, u⟩ => ⟨a, b, e, k.tupN t n, k.tupN u n⟩
def WebList (K : PySem.W.Frag) (H : Hp) (wl : Addr) (us : List WU) : Prop := ∃ uv : List V, H wl = some (.lst uv) ∧ All2 (WuAt K H) uv us
theorem WebList.same {K : PySem.W.Frag} {H H' : Hp} {wl : Addr} {us : List WU} (h : WebList K H wl us) (s : Same H H') : WebList K H' wl us := by
  obtain ⟨uv, e, a⟩ := h
  exact ⟨uv, s _ _ e, wus_same a s⟩
theorem All2.get {α β : Type} {R : α → β → Prop} {as : List α} {bs : List β} (h : All2 R as bs) : ∀ {i : Nat} {b : β}, bs[i]? = some b → ∃ a, as[i]? = some a ∧ R a b := by
  induction h with
  | nil => intro i b e; simp at e
  | @cons a b as bs h _ ih =>
    intro i b' e
    cases i with
    | zero => exact ⟨a, rfl, (Option.some.inj e) ▸ h⟩
    | succ i => exact ih (by simpa using e)
end K36
namespace K36
open L2 PySem
open PySem.Spec PyProof.Rows
def tSize : TE := fun σ H Q => ∃ (st sh fl : Addr) (z a b : Int) (full : List Nat), σ[0]? = some (some (V.ref st)) ∧ σ[5]? = some (some (V.ref sh)) ∧ σ[11]? = some (some (V.ref fl)) ∧ H st = some (.lst [.int z]) ∧ H sh = some (.lst [.int a, .int b]) ∧ H fl = some (.lst (full.map nV)) ∧
  0 < a ∧ a < 1073741824 ∧ ∀ (n : Nat) (z' : Int) H', n ≤ 2 → (n ≠ 0 → full ≠ []) → H' st = some (.lst [.int z']) → Kept [st] H H' → Q (nV n) H'
def tWr1 : TE := fun σ H Q => ∃ (st sh : Addr) (z a b : Int) (i : Nat), σ[0]? = some (some (V.ref st)) ∧ σ[5]? = some (some (V.ref sh)) ∧ σ[9]? = some (some (nV i)) ∧ H st = some (.lst [.int z]) ∧ H sh = some (.lst [.int a, .int b]) ∧
  0 < b ∧ b < 1073741824 ∧ ∀ (r : Nat) (z' : Int) H', H' st = some (.lst [.int z']) → Kept [st] H H' → Q (nV r) H'
def tWr2 : TE := fun σ H Q => ∃ r : Nat, σ[14]? = some (some (nV r)) ∧ ∀ w : Option Nat, (∀ s, w = some s → s < 4) → Q (oV w) H
/-- the places of the web's loop, all different -/
structure Nes (st sh la ul rl ol : Addr) : Prop where
  a1 : sh ≠ st
  a2 : la ≠ st
  a3 : ul ≠ st
  a4 : rl ≠ st
  a5 : ol ≠ st
  b1 : sh ≠ la
  b2 : sh ≠ ul
  b3 : sh ≠ rl
  c1 : la ≠ ul
  c2 : la ≠ rl
  d1 : ul ≠ rl
  e1 : ol ≠ sh
  e2 : ol ≠ la
  e3 : ol ≠ ul
  e4 : ol ≠ rl
structure WSt (K : PySem.W.Frag) (H0 H : Hp) (st sh la ul rl ol : Addr) (a b : Int) (o : List Nat) (i : Nat) (us : List WU) : Prop where
  len : us.length = i
  fst : ∃ z : Int, H st = some (.lst [.int z])
  fsh : H sh = some (.lst [.int a, .int b])
  fla : H la = some (.lst ((laidN us i).map oV))
  ful : ∃ uv : List V, H ul = some (.lst uv) ∧ All2 (WuAt K H) uv us
  frl : ∃ rv : List V, H rl = some (.lst rv) ∧ rv.length = i
  fol : H ol = some (.lst (o.map nV))
  kept : Kept [st] H0 H
section
variable {K : PySem.W.Frag} {H0 H H' : Hp} {st sh la ul rl ol : Addr} {a b : Int} {o : List Nat} {i : Nat} {us : List WU}
theorem WSt.same (h : WSt K H0 H st sh la ul rl ol a b o i us) (s : Same H H') : WSt K H0 H' st sh la ul rl ol a b o i us := by
  obtain ⟨h1, ⟨z, h2⟩, h3, h4, ⟨uv, h5, h5b⟩, ⟨rv, h6, h6b⟩, h7, h8⟩ := h
  exact ⟨h1, ⟨z, s _ _ h2⟩, s _ _ h3, s _ _ h4, ⟨uv, s _ _ h5, wus_same h5b s⟩, ⟨rv, s _ _ h6, h6b⟩, s _ _ h7, h8.trans s.kept⟩
theorem WSt.moved (h : WSt K H0 H st sh la ul rl ol a b o i us) (n : Nes st sh la ul rl ol) (k : Kept [st] H H') {z' : Int} (e : H' st = some (.lst [.int z'])) : WSt K H0 H' st sh la ul rl ol a b o i us := by
  obtain ⟨h1, ⟨z, h2⟩, h3, h4, ⟨uv, h5, h5b⟩, ⟨rv, h6, h6b⟩, h7, h8⟩ := h
  have m : ∀ {x : Addr}, x ≠ st → x ∉ [st] := fun n => by simpa using n
  exact ⟨h1, ⟨z', e⟩, k _ _ h3 (m n.a1), k _ _ h4 (m n.a2), ⟨uv, k _ _ h5 (m n.a3), wus_kept h5b k (notTup_l h2)⟩, ⟨rv, k _ _ h6 (m n.a4), h6b⟩, k _ _ h7 (m n.a5), h8.trans k⟩
end
section
variable {P : Program} {w : World} {K : PySem.W.Frag} {mg : Str → Option Value} {base : Heap}
def spWeb (K : PySem.W.Frag) : Sp := fun vs H Q _ => ∃ (st : Addr) (z : Int), vs = [.ref st, nV 24] ∧ H st = some (.lst [.int z]) ∧
  ∀ t wl rl us H', Web us → H' t = some (.tup [.ref wl, .ref rl]) → WebList K H' wl us → Kept [st] H H' → Q (.ref t) H'
theorem ok_web (T : Txt w K mg) : FnAt P w K mg base 3 "_law_web" ["_law_state_here", "_law_most"] (spWeb K) := by
  have g__law_next : FnAt P w K mg base 1 _ _ spNext := ok_next T
  have g__law_order : FnAt P w K mg base 2 _ _ (spOrder K) := ok_order T
  refine FnAt.of T.f__law_web sc__law_web (fun _ _ _ _ _ _ us hl => match us, hl with | [_, _], _ => rfl) (fun vs H Q E h => ?_) (fun cdv A outer s H vs Q E hr h => ?_)
  · obtain ⟨st, z, rfl, _⟩ := h
    rfl
  · obtain ⟨st, z, rfl, hz, q⟩ := h
    refine ⟨_, (pss_cons (ps_set (i := 2) sc__law_web.nd rfl (Or.inl rfl) (pe_op op_add pe_int (pe_cal g__law_next hr (by decide) (pa_cons (pv 0) (pa_cons (pv 1) pa_nil)))))
      (pss_cons (ps_par (i := 3) (j := 4) rfl sc__law_web.nd rfl rfl (by decide) rfl rfl (pa_cons (pe_cal g__law_next hr (by decide) (pa_cons (pv 0) (pa_cons pe_int pa_nil))) (pa_cons (pe_op op_add pe_int (pe_cal g__law_next hr (by decide) (pa_cons (pv 0) (pa_cons pe_int pa_nil)))) pa_nil)) (by rfl))
      (pss_cons (ps_asg (pe_tup (pa_cons (pe_lst (pa_cons (pe_op op_add pe_int (pe_cal g__law_next hr (by decide) (pa_cons (pv 0) (pa_cons pe_int pa_nil)))) (pa_cons (pe_op op_add pe_int (pe_cal g__law_next hr (by decide) (pa_cons (pv 0) (pa_cons pe_int pa_nil)))) pa_nil))) (pa_cons (pe_op op_rep (pe_lst (pa_cons pe_non pa_nil)) pe_int) (pa_cons (pe_lst pa_nil) (pa_cons (pe_lst pa_nil) pa_nil))))) (pg_tup (by rfl) (pgs_cons (pg_name (i := 5) sc__law_web.nd rfl (Or.inl rfl)) (pgs_cons (pg_name (i := 6) sc__law_web.nd rfl (Or.inr rfl)) (pgs_cons (pg_name (i := 7) sc__law_web.nd rfl (Or.inl rfl)) (pgs_cons (pg_name (i := 8) sc__law_web.nd rfl (Or.inl rfl)) pgs_nil))))))
      (pss_cons (ps_for PassesOwn.never rfl (pi_enum (by rfl) T.z_enumerate (pa_cons (pe_cal g__law_order hr (by decide) (pa_cons (pv 0) (pa_cons (pv 2) pa_nil))) pa_nil)) (pg_tup2 K (pg_name (i := 9) sc__law_web.nd rfl (Or.inl rfl)) (pg_name (i := 10) sc__law_web.nd rfl (Or.inl rfl))) (pss_cons (ps_set (i := 11) sc__law_web.nd rfl (Or.inr rfl) (pe_lc (own := [("_law_slot", 15)]) rfl sc__law_web.nd (pi_range1 (by rfl) T.z_range (pa_cons pe_int pa_nil)) (blkOk_by (own := [("_law_slot", 15)]) (N := N__law_web) (sc := defScope s__law_web) (by decide +kernel)) (fun _ _ _ _ _ => (pg_name (i := 15) sc__law_web.nd rfl (Or.inl rfl))) (fun _ _ _ _ _ => (pts_one (pt_cmpR op_notN (pe_ix (ixK_list K) (pv 6) (pv 15) (fun _ _ => rfl)) pe_non (nomark _)))) (fun _ _ _ _ _ => (pv 15))))
      (pss_cons (ps_set (i := 12) sc__law_web.nd rfl (Or.inl rfl) (PE.weak (t' := tSize) (pe_ifExp (pt_cmpR (op_neD hr.units) (pv 11) (pe_lst pa_nil) (nomark _)) (pe_callB (call_max2 rfl) (by rfl) T.z_max bb_max (pa_cons pe_int (pa_cons (pe_op op_sub pe_int (pe_cal g__law_next hr (by decide) (pa_cons (pv 0) (pa_cons (pe_ix (ixK_list K) (pv 5) pe_int (fun _ _ => rfl)) pa_nil)))) pa_nil))) pe_int) (fun σ H Q hc => by
      obtain ⟨st, sh, fl, z, a, b, full, h0, h5, h11, hst, hsh, hfl, a0, a1, q⟩ := hc
      refine ⟨_, h11, line_le 0, fun e0 he0 => ?_⟩
      have s1 : Same H (upd H e0 (.lst [])) := same_new he0
      refine ⟨.list ((full.map fun n => ((n : Nat) : Int)).map PyData.int), .list (([] : List Int).map PyData.int), .lst (.of (s1 _ _ hfl)) (by rw [show full.map nV = (full.map fun n => ((n : Nat) : Int)).map V.int by rw [List.map_map]; rfl]; exact dp_ints _), .lst (.of upd_same) .nil, PySem.W.shaped_ints _, PySem.W.shaped_ints [], ?_⟩
      rw [eqv_ints]
      have hst1 := s1 _ _ hst
      have hsh1 := s1 _ _ hsh
      generalize (upd H e0 (.lst [])) = H1 at s1 hst1 hsh1
      refine ⟨_, rfl, iteN (fun _ => q 0 z H1 (by decide) (fun n => absurd rfl n) hst1 s1.kept) fun hn => ?_⟩
      refine ⟨_, h0, _, h5, sh, _, 0, .int a, rfl, rfl, .of hsh1, rfl, st, z, a, rfl, hst1, a0, a1, fun r z' r0 r1 => ?_⟩
      refine ⟨_, _, rfl, rfl, _, _, rfl, ?_⟩
      have k : Kept [st] H (upd H1 st (.lst [.int z'])) := s1.kept.trans (kept_upd (by simp))
      have hne : full ≠ [] := fun z => hn (by rw [z]; rfl)
      obtain ⟨m, hm, hm2⟩ : ∃ m : Nat, (if (2 : Int) - r > 0 then (2 : Int) - r else 0) = ((m : Nat) : Int) ∧ m ≤ 2 := by
        by_cases c : (2 : Int) - r > 0
        · exact ⟨(2 - r).toNat, by rw [if_pos c]; omega, by omega⟩
        · exact ⟨0, by rw [if_neg c]; rfl, by decide⟩
      have q2 := q m z' _ hm2 (fun _ => hne) upd_same k
      rw [show nV m = V.int ((m : Nat) : Int) from rfl, ← hm] at q2
      exact q2)))
      (pss_cons (ps_set (i := 13) sc__law_web.nd rfl (Or.inl rfl) (pe_callTy call_tuple_of (by rfl) T.z_tuple bb_tuple (pa_cons (pe_lc (own := [("_law_one", 16)]) rfl sc__law_web.nd (pi_range1 (by rfl) T.z_range (pa_cons (pv 12) pa_nil)) (blkOk_by (own := [("_law_one", 16)]) (N := N__law_web) (sc := defScope s__law_web) (by decide +kernel)) (fun _ _ _ _ _ => (pg_name (i := 16) sc__law_web.nd rfl (Or.inl rfl))) (fun _ _ _ _ _ => pts_nil) (fun _ _ _ _ _ => (pe_ix (ixK_list K) (pv 11) (pe_cal g__law_next hr (by decide) (pa_cons (pv 0) (pa_cons (pe_callB (callK_len K) (by rfl) T.z_len PySem.boot_len (pa_cons (pv 11) pa_nil)) pa_nil))) (fun _ _ => rfl)))) pa_nil)))
      (pss_cons (ps_set (i := 14) sc__law_web.nd rfl (Or.inl rfl) (PE.weak (t' := tWr1) (pe_ifExp (pt_cmpR op_gt (pv 9) pe_int (nomark _)) (pe_cal g__law_next hr (by decide) (pa_cons (pv 0) (pa_cons (pe_ix (ixK_list K) (pv 5) pe_int (fun _ _ => rfl)) pa_nil))) (pe_cal g__law_next hr (by decide) (pa_cons (pv 0) (pa_cons pe_int pa_nil)))) (fun σ H Q hc => by
      obtain ⟨st, sh, z, a, b, i, h0, h5, h9, hst, hsh, b0, b1, q⟩ := hc
      have fin : ∀ r z' : Int, 0 ≤ r → Q (.int r) (upd H st (.lst [.int z'])) := fun r z' r0 => by
        obtain ⟨m, rfl⟩ := Int.eq_ofNat_of_zero_le r0
        exact q m z' _ upd_same (kept_upd (by simp))
      refine ⟨_, h9, _, _, rfl, rfl, _, rfl, iteD (fun _ => ?_) fun _ => ?_⟩
      · exact ⟨_, h0, _, h5, sh, _, 1, .int b, rfl, rfl, .of hsh, rfl, st, z, b, rfl, hst, b0, b1, fun r z' r0 _ => fin r z' r0⟩
      · exact ⟨_, h0, st, z, 4, rfl, hst, by decide, by decide, fun r z' r0 _ => fin r z' r0⟩)))
      (pss_cons (ps_set (i := 14) sc__law_web.nd rfl (Or.inl rfl) (PE.weak (t' := tWr2) (pe_ifExp (pt_cmpR op_lt (pv 14) pe_int (nomark _)) (pv 14) pe_non) (fun σ H Q hc => by
      obtain ⟨r, h14, q⟩ := hc
      refine ⟨_, h14, _, _, rfl, rfl, _, rfl, iteD (fun h1 => ?_) fun _ => q none (fun s z => nomatch z)⟩
      have h2 : r < 4 := by
        have : ((r : Nat) : Int) < 4 := h1
        omega
      exact ⟨_, h14, q (some r) (fun s z => by rw [← Option.some.inj z]; exact h2)⟩)))
      (pss_cons (ps_expr (pe_bm PySem.F.plainAttrs_list PySem.F.slot_list_append PySem.F.type_list_append mt_append (pv 7) (pa_cons (pe_tup (pa_cons (pe_op op_add (pv 3) (pe_op op_mul (pv 4) (pv 10))) (pa_cons (pv 13) (pa_cons (pv 14) pa_nil)))) pa_nil)))
      (pss_cons (ps_expr (pe_bm PySem.F.plainAttrs_list PySem.F.slot_list_append PySem.F.type_list_append mt_append (pv 8) (pa_cons (pe_callTy call_tuple_of (by rfl) T.z_tuple bb_tuple (pa_cons (pe_lc (own := [("_law_slot", 15)]) rfl sc__law_web.nd (pi_tup (pv 13)) (blkOk_by (own := [("_law_slot", 15)]) (N := N__law_web) (sc := defScope s__law_web) (by decide +kernel)) (fun _ _ _ _ _ => (pg_name (i := 15) sc__law_web.nd rfl (Or.inl rfl))) (fun _ _ _ _ _ => pts_nil) (fun _ _ _ _ _ => (pe_ix (ixK_list K) (pv 6) (pv 15) (fun _ _ => rfl)))) pa_nil)) pa_nil)))
      (pss_one (ps_if (pt_cmpR op_notN (pv 14) pe_non (nomark _)) (pss_one (ps_asg (pv 9) (pg_sub (pv 6) (pv 14) set_list))) pss_nil))))))))))
      (pss_one (ps_ret (pe_tup (pa_cons (pv 7) (pa_cons (pv 8) pa_nil))))))))), ?_⟩
    have stU : ∀ {H2 : Hp} {z' : Int}, Kept [st] H H2 → Kept [st] H (upd H2 st (.lst [.int z'])) := fun {H2 z'} k => k.trans (kept_upd (by simp))
    refine ⟨_, rfl, _, rfl, st, z, _, rfl, hz, by decide, by decide, fun r1 z1 r10 r11 => ⟨_, _, rfl, rfl, ?_⟩⟩
    obtain ⟨mn, rfl⟩ := Int.eq_ofNat_of_zero_le r10
    have em : (1 : Int) + ((mn : Nat) : Int) = ((mn + 1 : Nat) : Int) := by omega
    have k1 : Kept [st] H (upd H st (.lst [.int z1])) := stU (Same.refl _).kept
    have e1 : (upd H st (.lst [.int z1])) st = some (.lst [.int z1]) := upd_same
    generalize (upd H st (.lst [.int z1])) = H1 at k1 e1
    refine ⟨_, rfl, st, z1, 9, rfl, e1, by decide, by decide, fun r2 z2 r20 r21 => ?_⟩
    obtain ⟨fi, rfl⟩ := Int.eq_ofNat_of_zero_le r20
    refine ⟨_, rfl, st, z2, 9, rfl, upd_same, by decide, by decide, fun r3 z3 r30 r31 => ⟨_, _, rfl, rfl, _, _, rfl, ?_⟩⟩
    obtain ⟨gn, rfl⟩ := Int.eq_ofNat_of_zero_le r30
    rw [upd_upd]
    have k3 : Kept [st] H (upd H1 st (.lst [.int z3])) := stU k1
    have e3 : (upd H1 st (.lst [.int z3])) st = some (.lst [.int z3]) := upd_same
    generalize (upd H1 st (.lst [.int z3])) = H3 at k3 e3
    -- shares
    refine ⟨_, rfl, st, z3, 3, rfl, e3, by decide, by decide, fun a z4 a0 a1 => ⟨_, _, rfl, rfl, _, rfl, st, z4, 4, rfl, upd_same, by decide, by decide, fun b z5 b0 b1 => ⟨_, _, rfl, rfl, line_le 2, fun sh hsh => ?_⟩⟩⟩
    rw [upd_upd] at hsh ⊢
    have k5 : Kept [st] H (upd H3 st (.lst [.int z5])) := stU k3
    have e5 : (upd H3 st (.lst [.int z5])) st = some (.lst [.int z5]) := upd_same
    generalize (upd H3 st (.lst [.int z5])) = H5 at k5 e5 hsh ⊢
    have s6 : Same H5 (upd H5 sh (.lst [.int (2 + a), .int (4 + b)])) := same_new hsh
    have sh6 : (upd H5 sh (.lst [.int (2 + a), .int (4 + b)])) sh = some (.lst [.int (2 + a), .int (4 + b)]) := upd_same
    generalize (upd H5 sh (.lst [.int (2 + a), .int (4 + b)])) = H6 at s6 sh6 ⊢
    refine ⟨line_le 1, fun l0 hl0 => ?_⟩
    have s7 : Same H6 (upd H6 l0 (.lst [.non])) := same_new hl0
    refine ⟨l0, 4, [.non], rfl, rfl, upd_same, by decide, by decide, line_le 4, fun la hla => ?_⟩
    generalize (upd H6 l0 (.lst [.non])) = H7 at s7 hla ⊢
    have s8 : Same H7 (upd H7 la (.lst (List.replicate (Int.toNat 4) [V.non]).flatten)) := same_new hla
    have la8 : (upd H7 la (.lst (List.replicate (Int.toNat 4) [V.non]).flatten)) la = some (.lst ((laidN [] 0).map oV)) := by rw [upd_same]; rfl
    generalize (upd H7 la (.lst (List.replicate (Int.toNat 4) [V.non]).flatten)) = H8 at s8 la8 ⊢
    refine ⟨line_le 0, fun ul hul => ?_⟩
    have s9 : Same H8 (upd H8 ul (.lst [])) := same_new hul
    have ul9 : (upd H8 ul (.lst [])) ul = some (.lst []) := upd_same
    generalize (upd H8 ul (.lst [])) = H9 at s9 ul9 ⊢
    refine ⟨line_le 0, fun rl hrl => ⟨line_le 4, fun t4 ht4 => ?_⟩⟩
    have s10 : Same H9 (upd H9 rl (.lst [])) := same_new hrl
    have rl10 : (upd H9 rl (.lst [])) rl = some (.lst []) := upd_same
    generalize (upd H9 rl (.lst [])) = H10 at s10 rl10 ht4 ⊢
    have s11 : Same H10 (upd H10 t4 (.tup [.ref sh, .ref la, .ref ul, .ref rl])) := same_new ht4
    refine ⟨t4, _, rfl, .of upd_same, rfl, _, _, rfl, _, _, rfl, _, _, rfl, _, _, rfl, rfl, ?_⟩
    generalize (upd H10 t4 (.tup [.ref sh, .ref la, .ref ul, .ref rl])) = H11 at s11 ⊢
    have S5_9 : Same H5 H8 := (s6.trans s7).trans s8
    have e11 : H11 st = some (.lst [.int z5]) := s11 _ _ (s10 _ _ (s9 _ _ (S5_9 _ _ e5)))
    have sh11 : H11 sh = some (.lst [.int (2 + a), .int (4 + b)]) := s11 _ _ (s10 _ _ (s9 _ _ (s8 _ _ (s7 _ _ sh6))))
    have la11 : H11 la = some (.lst ((laidN [] 0).map oV)) := s11 _ _ (s10 _ _ (s9 _ _ la8))
    have ul11 : H11 ul = some (.lst []) := s11 _ _ (s10 _ _ ul9)
    have rl11 : H11 rl = some (.lst []) := s11 _ _ rl10
    have K11 : Kept [st] H H11 := ((((k5.trans S5_9.kept).trans s9.kept).trans s10.kept).trans s11.kept)
    have nsh : sh ≠ st := (ne_of_none e5 hsh).symm
    have nla : la ≠ st := (ne_of_none (s7 _ _ (s6 _ _ e5)) hla).symm
    have nul : ul ≠ st := (ne_of_none (S5_9 _ _ e5) hul).symm
    have nrl : rl ≠ st := (ne_of_none (s9 _ _ (S5_9 _ _ e5)) hrl).symm
    have nshla : sh ≠ la := ne_of_none (s7 _ _ sh6) hla
    have nshul : sh ≠ ul := ne_of_none (s8 _ _ (s7 _ _ sh6)) hul
    have nshrl : sh ≠ rl := ne_of_none (s9 _ _ (s8 _ _ (s7 _ _ sh6))) hrl
    have nlaul : la ≠ ul := ne_of_none la8 hul
    have nlarl : la ≠ rl := ne_of_none (s9 _ _ la8) hrl
    have nulrl : ul ≠ rl := ne_of_none ul9 hrl
    have zof : ∀ {H2 : Hp} {x : Addr}, Kept [st] H H2 → H2 x = none → x ≠ st → H x = none := fun {H2 x} k e n => k.none e (by simpa using n)
    have zla : H la = none := zof ((k5.trans s6.kept).trans s7.kept) hla nla
    have zul : H ul = none := zof (k5.trans S5_9.kept) hul nul
    have zrl : H rl = none := zof ((k5.trans S5_9.kept).trans s9.kept) hrl nrl
    -- the order
    have em2 : V.int (1 + ((mn : Nat) : Int)) = nV (mn + 1) := congrArg V.int em
    refine ⟨_, rfl, _, rfl, st, z5, mn + 1, congrArg (fun x => [V.ref st, x]) em2, e11, by omega, by omega, fun o ol z6 H12 hp zol eol e12 k12 => ⟨ol, _, rfl, .of eol, ?_⟩⟩
    have N : Nes st sh la ul rl ol := ⟨nsh, nla, nul, nrl, (ne_of_none e11 zol).symm, nshla, nshul, nshrl, nlaul, nlarl, nulrl, (ne_of_none sh11 zol).symm, (ne_of_none la11 zol).symm, (ne_of_none ul11 zol).symm, (ne_of_none rl11 zol).symm⟩
    have m1 : ∀ {x : Addr}, x ≠ st → x ∉ [st] := fun n => by simpa using n
    have W0 : WSt K H H12 st sh la ul rl ol (2 + a) (4 + b) o 0 [] := ⟨rfl, ⟨z6, e12⟩, k12 _ _ sh11 (m1 nsh), k12 _ _ la11 (m1 nla), ⟨[], k12 _ _ ul11 (m1 nul), .nil⟩, ⟨[], k12 _ _ rl11 (m1 nrl), rfl⟩, eol, K11.trans k12⟩
    have olen : o.length = mn + 1 := by rw [hp.length_eq, List.length_range]
    refine for_it walk_enum (fun i σ H' => ∃ us x9 x10 x11 x12 x13 x14, σ = [some (.ref st), some (nV 24), some (.int (1 + ((mn : Nat) : Int))), some (nV fi), some (.int (1 + ((gn : Nat) : Int))), some (.ref sh), some (.ref la), some (.ref ul), some (.ref rl), x9, x10, x11, x12, x13, x14, none, none] ∧
        WSt K H H' st sh la ul rl ol (2 + a) (4 + b) o i us ∧ WebP us fi (gn + 1) o)
      ⟨[], _, _, _, _, _, _, rfl, W0, WebP.nil _ _ _⟩ (fun i σ H' _ h => by obtain ⟨_, _, _, _, _, _, _, _, h, _⟩ := h; exact .of h.fol) ?_ ?_
    · rintro i y σ H0 H' hi ⟨us, x9, x10, x11, x12, x13, x14, rfl, S, WP⟩ ⟨T1, y1, y2, rfl, nT, rfl, hy1, hy2⟩
      obtain rfl : V.int (i : Nat) = y1 := Option.some.inj hy1
      obtain ⟨k, hk, rfl⟩ := mapGet hy2
      have hi2 : i < mn + 1 := by
        rw [List.length_map, olen] at hi
        exact hi
      have hk24 : k < mn + 1 := List.mem_range.mp (hp.mem_iff.mp (List.mem_of_getElem? hk))
      refine ⟨T1, _, rfl, .of upd_same, rfl, _, _, rfl, _, _, rfl, rfl, ?_⟩
      have S1 := S.same (same_new (o := .tup [nV i, nV k]) nT)
      generalize (upd H0 T1 (.tup [nV i, nV k])) = H1 at S1 ⊢
      -- full
      refine ⟨4, rfl, by decide, by decide, fun D hD => ?_⟩
      refine lc_it walk_range (fun j H' => Same H1 H' ∧ H' D = some (.lst (((List.range j).filter fun s => (((laidN us i)[s]?).join).isSome).map nV))) ⟨same_new hD, upd_same⟩ (fun _ _ _ _ => trivial) ?_ ?_
      · rintro j y H2 H2' hj ⟨s2, d2⟩ ⟨rfl, rfl⟩
        have hj4 : j < 4 := hj
        refine ⟨rfl, ?_⟩
        have gj : ((laidN us i).map oV)[j]? = some (oV (((laidN us i)[j]?).join)) := by
          rw [List.getElem?_map, List.getElem?_eq_getElem (by rw [laidN_len]; exact hj4)]
          rfl
        refine ⟨_, rfl, _, rfl, la, _, ((j : Nat) : Int), _, rfl, by simp, .of (s2 _ _ S1.fla), atI_nat gj, rfl, _, rfl, ?_⟩
        cases e : ((laidN us i)[j]?).join with
        | none =>
          refine iteF ⟨s2, ?_⟩
          rw [range_no (by rw [e]; rfl)]
          exact d2
        | some v =>
          refine iteT ⟨_, rfl, _, d2, ?_, fun c o e => ?_, ?_⟩
          · rw [List.length_map]
            have := List.length_filter_le (fun s => (((laidN us i)[s]?).join).isSome) (List.range j)
            rw [List.length_range] at this
            exact small1000 (by omega)
          · rw [upd_ne (ne_of_none e hD)]
            exact s2 _ _ e
          · rw [upd_same, range_yes (by rw [e]; rfl), List.map_append]
            simp
      rintro H2 ⟨s2, d2⟩
      have d2 : H2 D = some (.lst ((fullOf (laidN us i)).map nV)) := d2
      have S2 := S1.same s2
      have nDst : D ≠ st := by
        obtain ⟨zz, e⟩ := S1.fst
        exact (ne_of_none e hD).symm
      have fl4 : (fullOf (laidN us i)).length ≤ 4 := by
        have := List.length_filter_le (fun s => (((laidN us i)[s]?).join).isSome) (List.range 4)
        rw [List.length_range] at this
        exact this
      -- size
      obtain ⟨zz2, est2⟩ := S2.fst
      refine ⟨st, sh, D, zz2, 2 + a, 4 + b, fullOf (laidN us i), rfl, rfl, rfl, est2, S2.fsh, d2, by omega, by omega, fun n z3 H3 n2 hn est3 k3 => ?_⟩
      have S3 := S2.moved N k3 est3
      have d3 := k3 _ _ d2 (m1 nDst)
      -- slots
      refine ⟨_, rfl, n, rfl, by omega, by omega, fun D2 hD2 => ?_⟩
      have nD2st : D2 ≠ st := (ne_of_none est3 hD2).symm
      have nD2D : D2 ≠ D := (ne_of_none d3 hD2).symm
      refine lc_it walk_range (fun j H' => ∃ (acc : List Nat) (z4 : Int), H' D2 = some (.lst (acc.map nV)) ∧ acc.length = j ∧ (∀ s ∈ acc, s ∈ fullOf (laidN us i)) ∧ H' st = some (.lst [.int z4]) ∧ H' D = some (.lst ((fullOf (laidN us i)).map nV)) ∧ Kept [st] H3 H')
        ⟨[], z3, upd_same, rfl, by simp, by rw [upd_ne nD2st.symm]; exact est3, by rw [upd_ne nD2D.symm]; exact d3, kept_new hD2⟩ (fun _ _ _ _ => trivial) ?_ ?_
      · rintro j y H4 H4' hj ⟨acc, z4, e4, l4, f4, st4, d4, k4⟩ ⟨rfl, rfl⟩
        have hjn : j < n := by simpa using hj
        have hne : fullOf (laidN us i) ≠ [] := hn (by omega)
        have hpos : 0 < (fullOf (laidN us i)).length := List.length_pos_iff.mpr hne
        refine ⟨rfl, t_yes (iteT ?_)⟩
        refine ⟨_, rfl, _, rfl, _, rfl, D, _, rfl, .inl (.of d4), ?_⟩
        refine ⟨st, z4, _, rfl, st4, by rw [List.length_map]; omega, by rw [List.length_map]; omega, fun r z5 r0 r1 => ?_⟩
        obtain ⟨rn, rfl⟩ := Int.eq_ofNat_of_zero_le r0
        have hrn : rn < (fullOf (laidN us i)).length := by
          rw [List.length_map] at r1
          omega
        refine ⟨D, _, _, nV (fullOf (laidN us i))[rn], rfl, rfl, .of (by rw [upd_ne nDst]; exact d4), atI_nat (by rw [List.getElem?_map, List.getElem?_eq_getElem hrn]; rfl), acc.map nV, by rw [upd_ne nD2st]; exact e4, by rw [List.length_map]; exact small1000 (by omega), acc ++ [(fullOf (laidN us i))[rn]], z5, ?_, ?_, ?_, ?_, ?_, ?_⟩
        · rw [upd_same, List.map_append]
          rfl
        · rw [List.length_append, l4]
          rfl
        · intro s hs
          rcases List.mem_append.mp hs with hs | hs
          · exact f4 s hs
          · rw [List.mem_singleton.mp hs]
            exact List.getElem_mem hrn
        · rw [upd_ne nD2st.symm, upd_same]
        · rw [upd_ne nD2D.symm, upd_ne nDst]
          exact d4
        · intro c o e nc
          rw [upd_ne (ne_of_none e hD2), upd_ne (by simpa using nc)]
          exact k4 _ _ e nc
      rintro H4 ⟨slots, z4, e4, l4, f4, st4, d4, k4⟩
      have S4 := S3.moved N k4 st4
      refine ⟨D2, _, rfl, .inl ⟨.of e4, fun ts hts => ?_⟩⟩
      have s5 : Same H4 (upd H4 ts (.tup (slots.map nV))) := same_new hts
      have ts5 : SqT K (upd H4 ts (.tup (slots.map nV))) ts (slots.map nV) := .of upd_same
      have S5 := S4.same s5
      generalize (upd H4 ts (.tup (slots.map nV))) = H5 at s5 ts5 S5 ⊢
      -- writes
      obtain ⟨zz5, est5⟩ := S5.fst
      refine ⟨st, sh, zz5, 2 + a, 4 + b, i, rfl, rfl, rfl, est5, S5.fsh, by omega, by omega, fun r z6 H6 est6 k6 => ?_⟩
      have S6 := S5.moved N k6 est6
      have ts6 := k6.tupN ts5 (notTup_l est5)
      refine ⟨r, rfl, fun wr hwr => ?_⟩
      have egk : V.int (((fi : Nat) : Int) + (1 + ((gn : Nat) : Int)) * ((k : Nat) : Int)) = nV (fi + (gn + 1) * k) := congrArg V.int (by
        have h1 : (1 : Int) + ((gn : Nat) : Int) = ((gn + 1 : Nat) : Int) := by omega
        rw [h1]
        rfl)
      have hlen := S6.len
      obtain ⟨uv, hul6, huv6⟩ := S6.ful
      refine ⟨_, rfl, .inl ⟨rfl, _, .of hul6⟩, _, rfl, _, rfl, _, rfl, _, _, rfl, rfl, .inl ⟨by omega, by omega⟩, _, _, rfl, rfl, _, rfl, _, rfl, line_le 3, fun tu htu => ?_⟩
      have s7 : Same H6 (upd H6 tu (.tup [.int (((fi : Nat) : Int) + (1 + ((gn : Nat) : Int)) * ((k : Nat) : Int)), .ref ts, oV wr])) := same_new htu
      have tu7 : (upd H6 tu (.tup [.int (((fi : Nat) : Int) + (1 + ((gn : Nat) : Int)) * ((k : Nat) : Int)), .ref ts, oV wr])) tu = some (.tup [nV (fi + (gn + 1) * k), .ref ts, oV wr]) := by rw [upd_same, egk]
      have S7 := S6.same s7
      have hul7 := s7 _ _ hul6
      have huv7 := wus_same huv6 s7
      have ts7 := s7.tup ts6
      generalize (upd H6 tu (.tup [.int (((fi : Nat) : Int) + (1 + ((gn : Nat) : Int)) * ((k : Nat) : Int)), .ref ts, oV wr])) = H7 at s7 tu7 S7 hul7 huv7 ts7 ⊢
      refine ⟨ul, uv, _, rfl, rfl, hul7, ?_, ?_⟩
      · rw [huv7.len, hlen]
        exact small1000 (by omega)
      -- the new unit
      have k8 : Kept [ul] H7 (upd H7 ul (.lst (uv ++ [.ref tu]))) := kept_upd (by simp)
      have n8 := notTup_l hul7
      have wu8 : All2 (WuAt K (upd H7 ul (.lst (uv ++ [.ref tu])))) (uv ++ [.ref tu]) (us ++ [⟨fi + (gn + 1) * k, slots, wr⟩]) :=
        All2.app (wus_kept huv7 k8 n8) (.cons ⟨tu, ts, rfl, k8.tupN (.of tu7) n8, k8.tupN ts7 n8⟩ .nil)
      obtain ⟨zz7, est7⟩ := S7.fst
      have est8 : (upd H7 ul (.lst (uv ++ [.ref tu]))) st = some (.lst [.int zz7]) := by rw [upd_ne nul.symm]; exact est7
      have sh8 : (upd H7 ul (.lst (uv ++ [.ref tu]))) sh = some (.lst [.int (2 + a), .int (4 + b)]) := by rw [upd_ne nshul]; exact S7.fsh
      have la8 : (upd H7 ul (.lst (uv ++ [.ref tu]))) la = some (.lst ((laidN us i).map oV)) := by rw [upd_ne nlaul]; exact S7.fla
      have ul8 : (upd H7 ul (.lst (uv ++ [.ref tu]))) ul = some (.lst (uv ++ [.ref tu])) := upd_same
      obtain ⟨rv, hrv7, hrl7⟩ := S7.frl
      have rl8 : (upd H7 ul (.lst (uv ++ [.ref tu]))) rl = some (.lst rv) := by rw [upd_ne nulrl.symm]; exact hrv7
      have ol8 : (upd H7 ul (.lst (uv ++ [.ref tu]))) ol = some (.lst (o.map nV)) := by rw [upd_ne N.e3]; exact S7.fol
      have K8 : Kept [st] H (upd H7 ul (.lst (uv ++ [.ref tu]))) := Kept.over S7.kept k8 fun x hx => by rw [List.mem_singleton.mp hx]; exact zul
      have ts8 := k8.tupN ts7 n8
      generalize (upd H7 ul (.lst (uv ++ [.ref tu]))) = H8 at k8 wu8 est8 sh8 la8 ul8 rl8 ol8 K8 ts8 ⊢
      refine ⟨_, rfl, .inl ⟨rfl, _, .of rl8⟩, _, rfl, ts, rfl, ⟨_, ts8⟩, fun D3 hD3 => ?_⟩
      refine lc_it (walk_tup (xs := slots.map nV)) (fun j H' => Same H8 H' ∧ ∃ xs, H' D3 = some (.lst xs) ∧ xs.length = j) ⟨same_new hD3, [], upd_same, rfl⟩ (fun j H' _ h => h.1.tup ts8) ?_ ?_
      · rintro j y H9 _ hj ⟨s9, xs, d9, l9⟩ ⟨rfl, hy⟩
        obtain ⟨s', hs', rfl⟩ := mapGet hy
        obtain ⟨_, y2, hy2⟩ := mem_full (f4 s' (List.mem_of_getElem? hs'))
        refine ⟨rfl, t_yes (iteT ?_)⟩
        refine ⟨_, rfl, _, rfl, la, _, s', oV (some y2), rfl, rfl, .of (s9 _ _ la8), atI_nat (by rw [List.getElem?_map, hy2]; rfl), _, d9, ?_, fun c o e => ?_, xs ++ [oV (some y2)], upd_same, by rw [List.length_append, l9]; rfl⟩
        · rw [List.length_map] at hj
          exact small1000 (by omega)
        · rw [upd_ne (ne_of_none e hD3)]
          exact s9 _ _ e
      rintro H9 ⟨s9, xs, d9, l9⟩
      refine ⟨D3, xs, rfl, .inl ⟨.of d9, fun t9 ht9 => ?_⟩⟩
      have s10 : Same H8 (upd H9 t9 (.tup xs)) := s9.new ht9
      generalize (upd H9 t9 (.tup xs)) = H10 at s10 ⊢
      refine ⟨rl, rv, _, rfl, rfl, s10 _ _ rl8, small1000 (by omega), ?_⟩
      have k11 : Kept [rl] H10 (upd H10 rl (.lst (rv ++ [.ref t9]))) := kept_upd (by simp)
      have n11 := notTup_l (s10 _ _ rl8)
      have est11 : (upd H10 rl (.lst (rv ++ [.ref t9]))) st = some (.lst [.int zz7]) := by rw [upd_ne nrl.symm]; exact s10 _ _ est8
      have sh11' : (upd H10 rl (.lst (rv ++ [.ref t9]))) sh = some (.lst [.int (2 + a), .int (4 + b)]) := by rw [upd_ne nshrl]; exact s10 _ _ sh8
      have la11' : (upd H10 rl (.lst (rv ++ [.ref t9]))) la = some (.lst ((laidN us i).map oV)) := by rw [upd_ne nlarl]; exact s10 _ _ la8
      have ul11' : (upd H10 rl (.lst (rv ++ [.ref t9]))) ul = some (.lst (uv ++ [.ref tu])) := by rw [upd_ne nulrl]; exact s10 _ _ ul8
      have rl11' : (upd H10 rl (.lst (rv ++ [.ref t9]))) rl = some (.lst (rv ++ [.ref t9])) := upd_same
      have ol11' : (upd H10 rl (.lst (rv ++ [.ref t9]))) ol = some (.lst (o.map nV)) := by rw [upd_ne N.e4]; exact s10 _ _ ol8
      have K11' : Kept [st] H (upd H10 rl (.lst (rv ++ [.ref t9]))) := Kept.over (K8.trans s10.kept) k11 fun x hx => by rw [List.mem_singleton.mp hx]; exact zrl
      have wu11 := wus_kept (wus_same wu8 s10) k11 n11
      generalize (upd H10 rl (.lst (rv ++ [.ref t9]))) = H11' at k11 est11 sh11' la11' ul11' rl11' ol11' K11' wu11 ⊢
      have hx : WebP (us ++ [⟨fi + (gn + 1) * k, slots, wr⟩]) fi (gn + 1) o := by
        have hgk : (gn + 1) * k ≤ 9 * 23 := Nat.mul_le_mul (by omega) (by omega)
        refine WP.grow (k := k) (by rw [hlen]; exact hk) rfl ⟨?_, ?_, ?_, hwr⟩ ?_
        · show fi + (gn + 1) * k ≤ 1000
          omega
        · show slots.length ≤ 2
          rw [l4]
          simpa using n2
        · intro s' hs'
          exact (mem_full (f4 s' hs')).1
        · intro s' hs'
          rw [hlen]
          exact (mem_full (f4 s' hs')).2
      have hlen2 : (us ++ [(⟨fi + (gn + 1) * k, slots, wr⟩ : WU)]).length = i + 1 := by rw [List.length_append, hlen]; rfl
      have hnew : laidN (us ++ [⟨fi + (gn + 1) * k, slots, wr⟩]) (i + 1) = laidAfter (laidN us i) wr i := by
        have := laidN_new us ⟨fi + (gn + 1) * k, slots, wr⟩
        rw [hlen] at this
        exact this
      have rlen : (rv ++ [V.ref t9]).length = i + 1 := by rw [List.length_append, hrl7]; rfl
      cases wr with
      | none =>
        refine ⟨_, rfl, rfl, _, rfl, iteF ?_⟩
        refine ⟨_, _, _, _, _, _, _, rfl, ⟨hlen2, ⟨_, est11⟩, sh11', ?_, ⟨_, ul11', wu11⟩, ⟨_, rl11', rlen⟩, ol11', K11'⟩, hx⟩
        rw [hnew]
        exact la11'
      | some w0 =>
        have hw4 := hwr w0 rfl
        refine ⟨_, rfl, rfl, _, rfl, iteT ?_⟩
        refine ⟨_, rfl, _, rfl, _, rfl, la, _, w0, w0, rfl, rfl, la11', ixN_nat (by rw [List.length_map, laidN_len]; exact hw4), ?_⟩
        have k12 : Kept [la] H11' (upd H11' la (.lst (((laidN us i).map oV).set w0 (nV i)))) := kept_upd (by simp)
        refine ⟨_, _, _, _, _, _, _, rfl, ⟨hlen2, ⟨_, by rw [upd_ne nla.symm]; exact est11⟩, by rw [upd_ne nshla]; exact sh11', ?_, ⟨_, by rw [upd_ne nlaul.symm]; exact ul11', wus_kept wu11 k12 (notTup_l la11')⟩, ⟨_, by rw [upd_ne nlarl.symm]; exact rl11', rlen⟩, by rw [upd_ne N.e2]; exact ol11',
          Kept.over K11' k12 fun x hx => by rw [List.mem_singleton.mp hx]; exact zla⟩, hx⟩
        rw [hnew, upd_same]
        show some (HO.lst (((laidN us i).map oV).set w0 (nV i))) = some (HO.lst (((laidN us i).set w0 (some i)).map oV))
        rw [List.map_set]
        rfl
    · rintro σ H' ⟨us, x9, x10, x11, x12, x13, x14, rfl, S, WP⟩
      obtain ⟨uv, e1, e2⟩ := S.ful
      have hlen : us.length = mn + 1 := by rw [S.len, List.length_map, olen]
      refine ⟨_, rfl, _, rfl, line_le 2, fun t ht => ?_⟩
      have s1 : Same H' (upd H' t (.tup [.ref ul, .ref rl])) := same_new ht
      exact q t ul rl us _ (WP.web hp hlen (by omega) (by omega) (by omega)) upd_same ⟨uv, s1 _ _ e1, wus_same e2 s1⟩ (S.kept.trans s1.kept)
end
end K36
namespace K36
open L2 PySem
open PySem.Spec PyProof.Rows
theorem shaped_tints (ns : List Int) : SeqAt.shaped (.tuple (ns.map PyData.int)) = true := by
  have h1 := PySem.W.depthAll_ints ns
  have h2 : PyData.depth (.tuple (ns.map PyData.int)) ≤ 64 := by simp only [PyData.depth]; omega
  show (PyData.canLay0 (.tuple (ns.map PyData.int)) && decide (PyData.depth (.tuple (ns.map PyData.int)) ≤ 64)) = true
  rw [Bool.and_eq_true]
  exact ⟨by simp only [PyData.canLay0]; exact PySem.W.canLayAll0_ints ns, decide_eq_true h2⟩
theorem eqv_tints (ns ms : List Int) : PyData.eqv (.tuple (ns.map PyData.int)) (.tuple (ms.map PyData.int)) = decide (ns = ms) := by
  rw [PyData.eqv]
  exact eqvAll_ints ns ms
def tCh (K : PySem.W.Frag) : TE := fun σ H Q => ∃ (sa ra : Addr) (slots : List Nat), σ[4]? = some (some (V.ref sa)) ∧ σ[2]? = some (some (V.ref ra)) ∧ SqT K H sa (slots.map nV) ∧ SqT K H ra zeros ∧ slots.length ≤ 2 ∧
  ∀ c H', Same H H' → ChoiceAt K H' (slots.length : Nat) c → Q (.ref c) H'
def UAt (K : PySem.W.Frag) (H : Hp) (v : V) (x : WU) : Prop := ∃ a, v = .ref a ∧ UnitAt K H a x
theorem uat_same {K : PySem.W.Frag} {H H' : Hp} {vs : List V} {us : List WU} (h : All2 (UAt K H) vs us) (s : Same H H') : All2 (UAt K H') vs us := h.imp fun _ _ ⟨a, e, u⟩ => ⟨a, e, u.same s⟩
theorem uat_kept {K : PySem.W.Frag} {H H' : Hp} {qs : List Addr} {vs : List V} {us : List WU} (h : All2 (UAt K H) vs us) (k : Kept qs H H') (n : NotTup qs H) : All2 (UAt K H') vs us := h.imp fun _ _ ⟨a, e, u⟩ => ⟨a, e, u.kept k n⟩
section
variable {P : Program} {w : World} {K : PySem.W.Frag} {mg : Str → Option Value} {base : Heap}
def spSimple (K : PySem.W.Frag) : Sp := fun vs H Q _ => ∃ wl us, vs = [.ref wl] ∧ WebList K H wl us ∧ Web us ∧ ∀ q uv H', Same H H' → H q = none → H' q = some (.lst uv) → All2 (UAt K H') uv us → Q (.ref q) H'
theorem ok_simple (T : Txt w K mg) : FnAt P w K mg base 7 "_law_simple" ["_law_units"] (spSimple K) := by
  have g_letters_of : FnAt P w K mg base 6 _ _ (spLettersOf K) := ok_letters_of T
  refine FnAt.of T.f__law_simple sc__law_simple (fun _ _ _ _ _ _ us hl => match us, hl with | [_], _ => rfl) (fun vs H Q E h => ?_) (fun cdv A outer s H vs Q E hr h => ?_)
  · obtain ⟨wl, us, rfl, _⟩ := h
    rfl
  · obtain ⟨wl, us, rfl, ⟨wv, hwl, hwv⟩, W, q⟩ := h
    refine ⟨_, (pss_cons (ps_par (i := 2) (j := 1) rfl sc__law_simple.nd rfl rfl (by decide) rfl rfl (pa_cons (pe_op op_repT (pe_tup (pa_cons pe_int pa_nil)) pe_int) (pa_cons (pe_lst pa_nil) pa_nil)) (by rfl))
      (pss_cons (ps_for PassesOwn.never rfl (pi_list (pv 0)) (pg_tup (by rfl) (pgs_cons (pg_name (i := 3) sc__law_simple.nd rfl (Or.inl rfl)) (pgs_cons (pg_name (i := 4) sc__law_simple.nd rfl (Or.inl rfl)) (pgs_cons (pg_name (i := 5) sc__law_simple.nd rfl (Or.inl rfl)) pgs_nil)))) (pss_cons (ps_set (i := 6) sc__law_simple.nd rfl (Or.inl rfl) (PE.weak (t' := tCh K) (pe_ifExp (pt_cmpR (op_neD hr.units) (pv 4) (pe_tup pa_nil) (nomark _)) (pe_tup (pa_cons pe_str (pa_cons pe_int pa_nil))) (pe_tup (pa_cons pe_str (pa_cons (pv 2) pa_nil)))) (fun σ H Q hc => by
      obtain ⟨sa, ra, slots, h4, h2, hs, hz, few, q⟩ := hc
      refine ⟨_, h4, line_le 0, fun e0 he0 => ?_⟩
      have s1 : Same H (upd H e0 (.tup [])) := same_new he0
      refine ⟨.tuple ((slots.map fun n => ((n : Nat) : Int)).map PyData.int), .tuple (([] : List Int).map PyData.int), .tup (s1.tup hs) (by rw [show slots.map nV = (slots.map fun n => ((n : Nat) : Int)).map V.int by rw [List.map_map]; rfl]; exact dp_ints _), .tup (.of upd_same) .nil, shaped_tints _, shaped_tints [], ?_⟩
      rw [eqv_tints]
      generalize (upd H e0 (.tup [])) = H1 at s1
      refine ⟨_, rfl, iteN (fun h0 => ?_) fun h0 => ?_⟩
      · have e : slots = [] := List.map_eq_nil_iff.mp h0
        refine ⟨_, h2, line_le 2, fun c hc => q c _ (s1.new hc) (.inl ⟨by rw [e]; rfl, ra, .of upd_same, (s1.new hc).tup hz⟩)⟩
      · have e : slots ≠ [] := fun z => h0 (by rw [z]; rfl)
        have hp : 0 < slots.length := List.length_pos_iff.mpr e
        refine ⟨line_le 2, fun c hc => q c _ (s1.new hc) (.inr ⟨by omega, .of upd_same⟩)⟩)))
      (pss_one (ps_expr (pe_bm PySem.F.plainAttrs_list PySem.F.slot_list_append PySem.F.type_list_append mt_append (pv 1) (pa_cons (pe_tup (pa_cons pe_str (pa_cons (pv 3) (pa_cons pe_int (pa_cons (pv 4) (pa_cons (pv 5) (pa_cons (pe_cal g_letters_of hr (by decide) (pa_cons (pe_tup (pa_cons (pv 6) pa_nil)) (pa_cons pe_int (pa_cons pe_int (pa_cons (pe_callB (callK_len K) (by rfl) T.z_len PySem.boot_len (pa_cons (pv 4) pa_nil)) pa_nil))))) pa_nil))))))) pa_nil))))))
      (pss_one (ps_ret (pv 1))))), ?_⟩
    have few := W.few
    refine ⟨line_le 1, fun t1 ht1 => ?_⟩
    have s1 : Same H (upd H t1 (.tup [.int 0])) := same_new ht1
    refine ⟨t1, 16, [.int 0], rfl, rfl, .of upd_same, by decide, by decide, by decide, by decide, fun ra hra => ?_⟩
    generalize (upd H t1 (.tup [.int 0])) = H1 at s1 hra ⊢
    have s2 : Same H1 (upd H1 ra (.tup (List.replicate (Int.toNat 16) [V.int 0]).flatten)) := same_new hra
    have ra2 : SqT K (upd H1 ra (.tup (List.replicate (Int.toNat 16) [V.int 0]).flatten)) ra zeros := .of (by rw [upd_same]; rfl)
    generalize (upd H1 ra (.tup (List.replicate (Int.toNat 16) [V.int 0]).flatten)) = H2 at s2 ra2 ⊢
    refine ⟨line_le 0, fun fa hfa => ⟨_, _, rfl, ?_⟩⟩
    have S2 := s1.trans s2
    have zfa : H fa = none := by
      cases e : H fa with
      | none => rfl
      | some o => rw [S2 _ _ e] at hfa; cases hfa
    have s3 : Same H2 (upd H2 fa (.lst [])) := same_new hfa
    refine ⟨_, rfl, wl, rfl, ⟨_, .of ((S2.trans s3) _ _ hwl)⟩, ?_⟩
    refine for_it (walk_list (K := K) (xs := wv)) (fun i σ H' => ∃ uv x3 x4 x5 x6, σ = [some (.ref wl), some (.ref fa), some (.ref ra), x3, x4, x5, x6] ∧ Same H H' ∧ H' fa = some (.lst uv) ∧ All2 (UAt K H') uv (us.take i) ∧ SqT K H' ra zeros)
      ⟨[], _, _, _, _, rfl, S2.trans s3, upd_same, .nil, s3.tup ra2⟩ (fun i σ H' _ h => by obtain ⟨_, _, _, _, _, _, e, _⟩ := h; exact .of (e _ _ hwl)) ?_ ?_
    · rintro i y σ H0 H' hi ⟨uv, x3, x4, x5, x6, rfl, S3, f3, u3, z3⟩ ⟨rfl, hy⟩
      have hi2 : i < us.length := by rw [← hwv.len]; exact hi
      obtain ⟨v, ev, a, sa, rfl, h1, h2⟩ := hwv.get (i := i) (b := us[i]) (by simp [hi2])
      obtain rfl : V.ref a = y := Option.some.inj (ev.symm.trans hy)
      have hx : us[i]? = some us[i] := by simp [hi2]
      have ok := W.ok i _ hx
      have h1' := S3.tup h1
      have h2' := S3.tup h2
      refine ⟨a, _, rfl, h1', rfl, _, _, rfl, _, _, rfl, _, _, rfl, rfl, ?_⟩
      refine ⟨sa, ra, (us[i]).slots, rfl, rfl, h2', z3, ok.few, fun c H4 s4 hc => ?_⟩
      refine ⟨_, rfl, .inl ⟨rfl, _, .of (s4 _ _ f3)⟩, _, rfl, _, rfl, _, rfl, _, rfl, line_le 1, fun tc htc => ?_⟩
      have s5 : Same H4 (upd H4 tc (.tup [.ref c])) := same_new htc
      have tc5 : SqT K (upd H4 tc (.tup [.ref c])) tc [.ref c] := .of upd_same
      generalize (upd H4 tc (.tup [.ref c])) = H5 at s5 tc5 ⊢
      have h25 := (s4.trans s5).tup h2'
      refine ⟨_, rfl, sa, _, rfl, .inr h25, tc, c, _, rfl, tc5, by rw [List.length_map]; exact hc.same s5, fun lt H6 s6 hlt => ⟨line_le 6, fun tu htu => ?_⟩⟩
      rw [List.length_map] at hlt
      have S6 := (S3.trans s4).trans (s5.trans s6)
      have s7 : Same H6 (upd H6 tu (.tup [.str "unit", nV (us[i]).tick, .int 1, .ref sa, oV (us[i]).writes, .ref lt])) := same_new htu
      have tu7 : SqT K (upd H6 tu (.tup [.str "unit", nV (us[i]).tick, .int 1, .ref sa, oV (us[i]).writes, .ref lt])) tu [.str "unit", nV (us[i]).tick, .int 1, .ref sa, oV (us[i]).writes, .ref lt] := .of upd_same
      have f7 := s7 _ _ (s6 _ _ (s5 _ _ (s4 _ _ f3)))
      generalize (upd H6 tu (.tup [.str "unit", nV (us[i]).tick, .int 1, .ref sa, oV (us[i]).writes, .ref lt])) = H7 at s7 tu7 f7 ⊢
      have un7 : UnitAt K H7 tu us[i] := ⟨⟨sa, lt, tu7, (s6.trans s7).tup h25, s7.tup (.of hlt)⟩, ok⟩
      have u7 := uat_same u3 ((s4.trans s5).trans (s6.trans s7))
      refine ⟨fa, uv, _, rfl, rfl, f7, ?_, ?_⟩
      · rw [u3.len, List.length_take]
        exact small1000 (by omega)
      have k8 : Kept [fa] H7 (upd H7 fa (.lst (uv ++ [.ref tu]))) := kept_upd (by simp)
      have n8 := notTup_l f7
      refine ⟨uv ++ [.ref tu], _, _, _, _, rfl, fun b o e => ?_, upd_same, ?_, k8.tupN ((s4.trans (s5.trans (s6.trans s7))).tup z3) n8⟩
      · rw [upd_ne (ne_of_none e zfa)]
        exact s7 _ _ (S6 _ _ e)
      · rw [take_next hx]
        exact All2.app (uat_kept u7 k8 n8) (.cons ⟨tu, rfl, un7.kept k8 n8⟩ .nil)
    · rintro σ H' ⟨uv, x3, x4, x5, x6, rfl, S3, f3, u3, z3⟩
      rw [hwv.len, List.take_length] at u3
      exact ⟨_, rfl, q fa uv H' S3 zfa f3 u3⟩
end
end K36
namespace K36
open L2 PySem
open PySem.Spec PyProof.Rows
/-! ### what a copy of the line gives by itself from a unit on -/
noncomputable def hadL (us : List WU) (s : Nat) : List Nat := (List.range us.length).filter fun a => !lead us s a
/-- is what stands in a slot good, behind i units -/
noncomputable def flag (us : List WU) (s i k : Nat) : Bool := match ((laidN us i)[k]?).join with
  | some x => !lead us s x
  | none => false
theorem lead_small {us : List WU} {s a : Nat} (h : a < s) : lead us s a = true := by
  unfold lead
  exact decide_eq_true (Nat.lt_of_le_of_lt ((first_is (readsN us) a).2 _ .refl) h)
theorem flag_start (us : List WU) (s k : Nat) : flag us s s k = false := by
  unfold flag
  cases e : ((laidN us s)[k]?).join with
  | none => rfl
  | some x =>
    have h : (laidN us s)[k]? = some (some x) := by
      cases e2 : (laidN us s)[k]? with
      | none => rw [e2] at e; cases e
      | some o => rw [e2] at e; rw [show o = some x from e]
    have := laidN_lt us s k x h
    show (!lead us s x) = false
    rw [lead_small this]
    rfl
theorem lead_rec {us : List WU} (W : Laid us) {s a : Nat} (h : s ≤ a) : (!lead us s a) = (readsN us a).all fun r => !lead us s r := by
  have key := first_ge (R := readsN us) (fun i r hr => reads_lt W hr) (a := a) (s := s)
  rw [Bool.eq_iff_iff, List.all_eq_true]
  unfold lead
  simp only [Bool.not_eq_true', decide_eq_false_iff_not, Nat.not_lt]
  constructor
  · intro e r hr
    exact (key.mp e).2 r hr
  · intro e
    exact key.mpr ⟨h, e⟩
/-- all that a unit reads is good: it is itself -/
theorem good_is {us : List WU} (W : Laid us) {s a : Nat} {x : WU} (h : s ≤ a) (hx : us[a]? = some x) : (x.slots.all fun k => flag us s a k) = !lead us s a := by
  rw [lead_rec W h]
  have e : readsN us a = x.slots.map (readOf (laidN us a)) := by
    unfold readsN
    rw [hx]
  rw [e, List.all_map, Bool.eq_iff_iff, List.all_eq_true, List.all_eq_true]
  have each : ∀ k ∈ x.slots, flag us s a k = !lead us s (readOf (laidN us a) k) := fun k hk => by
    obtain ⟨y, hy⟩ := W a x hx k hk
    rw [join_of hy]
    unfold flag
    rw [hy]
    rfl
  constructor
  · intro z k hk
    have := z k hk
    rw [each k hk] at this
    exact this
  · intro z k hk
    rw [each k hk]
    exact z k hk
noncomputable def flags (us : List WU) (s i : Nat) : List Bool := (List.range 4).map (flag us s i)
theorem flags_len (us : List WU) (s i : Nat) : (flags us s i).length = 4 := by
  unfold flags
  rw [List.length_map, List.length_range]
theorem flags_get {us : List WU} {s i k : Nat} (h : k < 4) : (flags us s i)[k]? = some (flag us s i k) := by
  unfold flags
  rw [List.getElem?_map, List.getElem?_range h]
  rfl
theorem flags_start (us : List WU) (s : Nat) : flags us s s = List.replicate 4 false := by
  unfold flags
  rw [List.map_congr_left (fun k _ => flag_start us s k)]
  rfl
theorem flags_next {us : List WU} {s i : Nat} {x : WU} (hx : us[i]? = some x) : flags us s (i + 1) = match x.writes with
    | none => flags us s i
    | some k => (flags us s i).set k (!lead us s i) := by
  have hn : laidN us (i + 1) = laidAfter (laidN us i) x.writes i := by
    show (match us[i]? with | some u => laidAfter (laidN us i) u.writes i | none => laidN us i) = _
    rw [hx]
  cases hw : x.writes with
  | none =>
    unfold flags flag
    rw [hn, hw]
    rfl
  | some k =>
    show flags us s (i + 1) = (flags us s i).set k (!lead us s i)
    apply List.ext_getElem?
    intro j
    by_cases hj : j < 4
    · rw [flags_get hj, List.getElem?_set]
      unfold flag
      rw [hn, hw]
      show some (match (((laidN us i).set k (some i))[j]?).join with | some x => !lead us s x | none => false) = _
      rw [List.getElem?_set]
      by_cases e : k = j
      · rw [if_pos e, if_pos e, laidN_len, flags_len, if_pos (by omega), if_pos (by omega)]
        rfl
      · rw [if_neg e, if_neg e, flags_get hj]
        rfl
    · rw [List.getElem?_eq_none (by rw [flags_len]; omega), List.getElem?_eq_none (by rw [List.length_set, flags_len]; omega)]
theorem range_nil {us : List WU} {s : Nat} : (List.range s).filter (fun a => !lead us s a) = [] := by
  apply List.filter_eq_nil_iff.mpr
  intro a ha
  rw [lead_small (List.mem_range.mp ha)]
  decide
theorem notFalse (bs : List Bool) : (!inV (.bl false) (bs.map V.bl)) = bs.all id := by
  induction bs with
  | nil => rfl
  | cons b r ih =>
    have h : inV (.bl false) ((b :: r).map V.bl) = ((b == false) || inV (.bl false) (r.map V.bl)) := rfl
    rw [h, Bool.not_or, ih]
    cases b <;> rfl
section
variable {P : Program} {w : World} {K : PySem.W.Frag} {mg : Str → Option Value} {base : Heap}
def spHad (K : PySem.W.Frag) : Sp := fun vs H Q _ => ∃ wl us s, vs = [.ref wl, nV s] ∧ WebList K H wl us ∧ Web us ∧ s < us.length ∧ ∀ q H', Same H H' → H q = none → H' q = some (.lst ((hadL us s).map nV)) → Q (.ref q) H'
theorem ok_had (T : Txt w K mg) : FnAt P w K mg base 1 "_law_had" ["_law_web_here", "_law_first"] (spHad K) := by
  refine FnAt.of T.f__law_had sc__law_had (fun _ _ _ _ _ _ us hl => match us, hl with | [_, _], _ => rfl) (fun vs H Q E h => ?_) (fun cdv A outer s H vs Q E hr h => ?_)
  · obtain ⟨wl, us, s, rfl, _⟩ := h
    rfl
  · obtain ⟨wl, us, s0, rfl, ⟨wv, hwl, hwv⟩, W, hs0, q⟩ := h
    refine ⟨_, (pss_cons (ps_asg (pe_tup (pa_cons (pe_op op_rep (pe_lst (pa_cons pe_bl pa_nil)) pe_int) (pa_cons (pe_lst pa_nil) pa_nil))) (pg_tup2 K (pg_name (i := 4) sc__law_had.nd rfl (Or.inr rfl)) (pg_name (i := 3) sc__law_had.nd rfl (Or.inl rfl))))
      (pss_cons (ps_for PassesOwn.never rfl (pi_range2 (by rfl) T.z_range (pa_cons (pv 1) (pa_cons (pe_callB (callK_len K) (by rfl) T.z_len PySem.boot_len (pa_cons (pv 0) pa_nil)) pa_nil))) (pg_name (i := 2) sc__law_had.nd rfl (Or.inl rfl)) (pss_cons (ps_asg (pe_ix (ixK_list K) (pv 0) (pv 2) (fun _ _ => rfl)) (pg_tup (by rfl) (pgs_cons (pg_name (i := 6) sc__law_had.nd rfl (Or.inl rfl)) (pgs_cons (pg_name (i := 7) sc__law_had.nd rfl (Or.inl rfl)) (pgs_cons (pg_name (i := 8) sc__law_had.nd rfl (Or.inl rfl)) pgs_nil)))))
      (pss_cons (ps_set (i := 5) sc__law_had.nd rfl (Or.inl rfl) (pe_cmpR (opK_notIn K) pe_bl (pe_lc (own := [("_law_slot", 9)]) rfl sc__law_had.nd (pi_tup (pv 7)) (blkOk_by (own := [("_law_slot", 9)]) (N := N__law_had) (sc := defScope s__law_had) (by decide +kernel)) (fun _ _ _ _ _ => (pg_name (i := 9) sc__law_had.nd rfl (Or.inl rfl))) (fun _ _ _ _ _ => pts_nil) (fun _ _ _ _ _ => (pe_ix (ixK_list K) (pv 4) (pv 9) (fun _ _ => rfl)))) (by rfl)))
      (pss_cons (ps_if (pt_val (pv 5)) (pss_one (ps_expr (pe_bm PySem.F.plainAttrs_list PySem.F.slot_list_append PySem.F.type_list_append mt_append (pv 3) (pa_cons (pv 2) pa_nil)))) pss_nil)
      (pss_one (ps_if (pt_cmpR op_notN (pv 8) pe_non (nomark _)) (pss_one (ps_asg (pv 5) (pg_sub (pv 4) (pv 8) set_list))) pss_nil))))))
      (pss_one (ps_ret (pv 3))))), ?_⟩
    have few := W.few
    refine ⟨line_le 1, fun l0 hl0 => ?_⟩
    have s1 : Same H (upd H l0 (.lst [.bl false])) := same_new hl0
    refine ⟨l0, 4, [.bl false], rfl, rfl, upd_same, by decide, by decide, line_le 4, fun la hla => ?_⟩
    generalize (upd H l0 (.lst [.bl false])) = H1 at s1 hla ⊢
    have s2 : Same H1 (upd H1 la (.lst (List.replicate (Int.toNat 4) [V.bl false]).flatten)) := same_new hla
    have la2 : (upd H1 la (.lst (List.replicate (Int.toNat 4) [V.bl false]).flatten)) la = some (.lst ((flags us s0 s0).map V.bl)) := by
      rw [upd_same, flags_start]
      rfl
    have zof : ∀ {H2 : Hp} {x : Addr}, Same H H2 → H2 x = none → H x = none := fun {H2 x} k e => by
      cases e2 : H x with
      | none => rfl
      | some o => rw [k _ _ e2] at e; cases e
    have zla := zof s1 hla
    generalize (upd H1 la (.lst (List.replicate (Int.toNat 4) [V.bl false]).flatten)) = H2 at s2 la2 ⊢
    refine ⟨line_le 0, fun fa hfa => ?_⟩
    have zfa := zof (s1.trans s2) hfa
    have nlf : la ≠ fa := ne_of_none la2 hfa
    have s3 : Same H2 (upd H2 fa (.lst [])) := same_new hfa
    have fa3 : (upd H2 fa (.lst [])) fa = some (.lst (((List.range s0).filter fun a => !lead us s0 a).map nV)) := by
      rw [upd_same, range_nil]
      rfl
    have la3 := s3 _ _ la2
    generalize (upd H2 fa (.lst [])) = H3 at s3 fa3 la3 ⊢
    refine ⟨line_le 2, fun tp htp => ?_⟩
    have s4 : Same H3 (upd H3 tp (.tup [.ref la, .ref fa])) := same_new htp
    refine ⟨tp, _, rfl, .of upd_same, rfl, _, _, rfl, _, _, rfl, rfl, ?_⟩
    generalize (upd H3 tp (.tup [.ref la, .ref fa])) = H4 at s4 ⊢
    have S4 : Same H H4 := ((s1.trans s2).trans s3).trans s4
    have hwvl := hwv.len
    refine ⟨_, rfl, _, rfl, wl, _, rfl, .inl (.of (S4 _ _ hwl)), _, _, rfl, ⟨by omega, by omega, by omega, by omega⟩, ?_⟩
    have en : (((wv.length : Nat) : Int) - ((s0 : Nat) : Int)).toNat = us.length - s0 := by omega
    rw [en]
    have flatB : ∀ bs : List Bool, (bs.map V.bl).all flatV = true := fun bs => by
      rw [List.all_map]
      exact List.all_eq_true.mpr fun _ _ => rfl
    refine for_it walk_range (fun j σ H' => ∃ x2 x5 x6 x7 x8, σ = [some (.ref wl), some (nV s0), x2, some (.ref fa), some (.ref la), x5, x6, x7, x8, none] ∧ Same H H' ∧ H' la = some (.lst ((flags us s0 (s0 + j)).map V.bl)) ∧ H' fa = some (.lst (((List.range (s0 + j)).filter fun a => !lead us s0 a).map nV)))
      ⟨_, _, _, _, _, rfl, S4, s4 _ _ la3, s4 _ _ fa3⟩ (fun _ _ _ _ _ => trivial) ?_ ?_
    · rintro j x σ H0 H' hi ⟨x2, x5, x6, x7, x8, rfl, S5, la5, fa5⟩ ⟨rfl, hx⟩
      obtain rfl : x = nV (s0 + j) := hx
      have hi2 : s0 + j < us.length := by omega
      have hu : us[s0 + j]? = some us[s0 + j] := by simp [hi2]
      obtain ⟨v, ev, a, sa, rfl, h1, h2⟩ := hwv.get hu
      have ok := W.ok _ _ hu
      have few2 := ok.few
      have h1' := S5.tup h1
      have h2' := S5.tup h2
      refine ⟨_, rfl, _, rfl, wl, wv, _, .ref a, rfl, rfl, .of (S5 _ _ hwl), atI_nat ev, ?_⟩
      refine ⟨a, _, rfl, h1', rfl, _, _, rfl, _, _, rfl, _, _, rfl, rfl, ?_⟩
      refine ⟨_, rfl, sa, rfl, ⟨_, h2'⟩, fun D hD => ?_⟩
      refine lc_it (walk_tup (xs := (us[s0 + j]).slots.map nV)) (fun i H2 => Same H' H2 ∧ H2 D = some (.lst ((((us[s0 + j]).slots.take i).map (flag us s0 (s0 + j))).map V.bl))) ⟨same_new hD, upd_same⟩ (fun i H2 _ h => h.1.tup h2') ?_ ?_
      · rintro i y H6 _ hi6 ⟨s6, d6⟩ ⟨rfl, hy⟩
        obtain ⟨k, hk, rfl⟩ := mapGet hy
        have hk4 := ok.slots k (List.mem_of_getElem? hk)
        refine ⟨rfl, t_yes (iteT ?_)⟩
        refine ⟨_, rfl, _, rfl, la, _, k, .bl (flag us s0 (s0 + j) k), rfl, rfl, .of (s6 _ _ la5), atI_nat (by rw [List.getElem?_map, flags_get hk4]; rfl), _, d6, ?_, fun c o e => ?_, ?_⟩
        · rw [List.length_map, List.length_map, List.length_take]
          exact small1000 (by omega)
        · rw [upd_ne (ne_of_none e hD)]
          exact s6 _ _ e
        · rw [upd_same, take_next hk, List.map_append, List.map_append]
          rfl
      rintro H6 ⟨s6, d6⟩
      rw [List.length_map, List.take_length] at d6
      refine ⟨D, _, rfl, .inl (.of d6), rfl, flatB _, ?_⟩
      have eg : (!inV (.bl false) (((us[s0 + j]).slots.map (flag us s0 (s0 + j))).map V.bl)) = !lead us s0 (s0 + j) := by
        rw [notFalse, List.all_map, ← good_is W.laid (Nat.le_add_right _ _) hu]
        rfl
      rw [eg]
      have la6 := s6 _ _ la5
      have fa6 := s6 _ _ fa5
      have S6 := S5.trans s6
      -- the flag of what it writes, behind either way
      have last : ∀ (H7 : Hp), Same H H7 → H7 la = some (.lst ((flags us s0 (s0 + j)).map V.bl)) → H7 fa = some (.lst (((List.range (s0 + (j + 1))).filter fun a => !lead us s0 a).map nV)) →
          tIfS (tTest (tOp (fun x y H Q => y = V.non ∧ Q (V.bl !decide (x = V.non)) H) (tVar 8) (tC V.non))) (tAsg (tVar 5) (gSub (tVar 4) (tVar 8) rSetL)) tNext
            { nx := fun σ H' => ∃ x2 x5 x6 x7 x8, σ = [some (.ref wl), some (nV s0), x2, some (.ref fa), some (.ref la), x5, x6, x7, x8, none] ∧ Same H H' ∧ H' la = some (.lst ((flags us s0 (s0 + (j + 1))).map V.bl)) ∧ H' fa = some (.lst (((List.range (s0 + (j + 1))).filter fun a => !lead us s0 a).map nV)),
              rt := Q } [some (.ref wl), some (nV s0), some (nV (s0 + j)), some (.ref fa), some (.ref la), some (.bl (!lead us s0 (s0 + j))), some (nV (us[s0 + j]).tick), some (.ref sa), some (oV (us[s0 + j]).writes), none] H7 := by
        intro H7 S7 la7 fa7
        have hn := flags_next (us := us) (s := s0) hu
        cases hw : (us[s0 + j]).writes with
        | none =>
          rw [hw] at hn
          exact ⟨_, rfl, rfl, _, rfl, iteF ⟨_, _, _, _, _, rfl, S7, by rw [show s0 + (j + 1) = s0 + j + 1 by omega, hn]; exact la7, fa7⟩⟩
        | some k =>
          rw [hw] at hn
          have hk4 := ok.writes k hw
          refine ⟨_, rfl, rfl, _, rfl, iteT ?_⟩
          refine ⟨_, rfl, _, rfl, _, rfl, la, _, k, k, rfl, rfl, la7, ixN_nat (by rw [List.length_map, flags_len]; exact hk4), ?_⟩
          refine ⟨_, _, _, _, _, rfl, fun c o e => ?_, ?_, by rw [upd_ne nlf.symm]; exact fa7⟩
          · rw [upd_ne (ne_of_none e zla)]
            exact S7 _ _ e
          · rw [upd_same, show s0 + (j + 1) = s0 + j + 1 by omega, hn]
            show some (HO.lst (((flags us s0 (s0 + j)).map V.bl).set k (V.bl (!lead us s0 (s0 + j))))) = some (HO.lst (((flags us s0 (s0 + j)).set k (!lead us s0 (s0 + j))).map V.bl))
            rw [List.map_set]
      refine ⟨_, rfl, _, rfl, ?_⟩
      cases eb : lead us s0 (s0 + j) with
      | true =>
        refine iteF ?_
        have l := last H6 S6 la6 (by rw [show s0 + (j + 1) = s0 + j + 1 by omega, range_no (by rw [eb]; rfl)]; exact fa6)
        rw [eb] at l
        exact l
      | false =>
        refine iteT ?_
        refine ⟨_, rfl, .inl ⟨rfl, _, .of fa6⟩, _, rfl, fa, _, _, rfl, rfl, fa6, ?_, ?_⟩
        · rw [List.length_map]
          have := List.length_filter_le (fun a => !lead us s0 a) (List.range (s0 + j))
          rw [List.length_range] at this
          exact small1000 (by omega)
        have l := last (upd H6 fa (.lst (((List.range (s0 + j)).filter fun a => !lead us s0 a).map nV ++ [nV (s0 + j)]))) (fun c o e => by
            rw [upd_ne (ne_of_none e zfa)]
            exact S6 _ _ e) (by rw [upd_ne nlf]; exact la6) (by
            rw [upd_same, show s0 + (j + 1) = s0 + j + 1 by omega, range_yes (by rw [eb]; rfl), List.map_append]
            rfl)
        rw [eb] at l
        exact l
    · rintro σ H' ⟨x2, x5, x6, x7, x8, rfl, S5, la5, fa5⟩
      rw [show s0 + (us.length - s0) = us.length by omega] at fa5
      exact ⟨_, rfl, q fa H' S5 zfa fa5⟩
end
end K36
namespace K36
open L2 PySem
open PySem.Spec PyProof.Rows
section
variable {P : Program} {w : World} {K : PySem.W.Frag} {mg : Str → Option Value} {base : Heap}
def tDue (K : PySem.W.Frag) : TS := fun D σ H => ∃ (ha la du : Addr) (had later acc : List Nat) (s : Nat), σ[10]? = some (some (V.ref ha)) ∧ σ[11]? = some (some (V.ref la)) ∧ σ[9]? = some (some (V.ref du)) ∧ σ[4]? = some (some (nV s)) ∧ σ.length = 14 ∧
  H ha = some (.lst (had.map nV)) ∧ H la = some (.lst (later.map nV)) ∧ H du = some (.lst (acc.map nV)) ∧ later.length ≤ 24 ∧ acc.length ≤ 24 ∧
  ∀ H', Kept [du] H H' → H' du = some (.lst ((if (later.all fun a => decide (a ∈ had)) = true then acc ++ [s] else acc).map nV)) → D.nx σ H'
def spLaw (K : PySem.W.Frag) : Sp := fun vs H Q _ => ∃ (a : Addr) (ns : List Int), vs = [.ref a] ∧ SqL K H a (ns.map V.int) ∧ ∀ H', Q (.bl true) H'
theorem inV_nat (a : Nat) (xs : List Nat) : inV (nV a) (xs.map nV) = decide (a ∈ xs) := by
  unfold inV
  rw [List.any_map, Bool.eq_iff_iff, List.any_eq_true, decide_eq_true_iff]
  constructor
  · rintro ⟨x, hx, e⟩
    have e2 : (((x : Nat) : Int) == ((a : Nat) : Int)) = true := e
    have e3 : ((x : Nat) : Int) = ((a : Nat) : Int) := by simpa using e2
    have : x = a := by omega
    exact this ▸ hx
  · intro h
    refine ⟨a, h, ?_⟩
    show (((a : Nat) : Int) == ((a : Nat) : Int)) = true
    simp
theorem nats_ints (xs : List Nat) : xs.map nV = (xs.map fun n => ((n : Nat) : Int)).map V.int := by
  rw [List.map_map]
  rfl
theorem all_of_filter {xs had : List Nat} (h : (xs.filter fun a => !decide (a ∈ had)) = []) : (xs.all fun a => decide (a ∈ had)) = true := by
  rw [List.all_eq_true]
  intro a ha
  have := List.filter_eq_nil_iff.mp h a ha
  simpa using this
theorem filter_of_all {xs had : List Nat} (h : (xs.all fun a => decide (a ∈ had)) = true) : (xs.filter fun a => !decide (a ∈ had)) = [] := by
  rw [List.filter_eq_nil_iff]
  intro a ha
  have := List.all_eq_true.mp h a ha
  simpa using this
theorem sorted_eq : ∀ {xs ys : List Int}, xs.Perm ys → xs.Pairwise (· ≤ ·) → ys.Pairwise (· ≤ ·) → xs = ys
  | [], ys, p, _, _ => (List.nil_perm.mp p).symm
  | x :: xs, [], p, _, _ => absurd (List.perm_nil.mp p) (by simp)
  | x :: xs, y :: ys, p, hx, hy => by
    have h1 : x ∈ y :: ys := p.mem_iff.mp (by simp)
    have h2 : y ∈ x :: xs := p.mem_iff.mpr (by simp)
    have e : x = y := by
      rcases List.mem_cons.mp h1 with e | h1
      · exact e
      rcases List.mem_cons.mp h2 with e | h2
      · exact e.symm
      have a := (List.pairwise_cons.mp hx).1 y h2
      have b := (List.pairwise_cons.mp hy).1 x h1
      omega
    subst e
    rw [sorted_eq (List.Perm.cons_inv p) (List.pairwise_cons.mp hx).2 (List.pairwise_cons.mp hy).2]
theorem mem_had {us : List WU} {s a : Nat} (h : a < us.length) : a ∈ hadL us s ↔ lead us s a = false := by
  unfold hadL
  rw [List.mem_filter, List.mem_range]
  simp [h]
theorem due_is (us : List WU) (s : Nat) : ((laterL us s).all fun a => decide (a ∈ hadL us s)) = !(laterL us s).any (lead us s) := by
  rw [Bool.eq_iff_iff, List.all_eq_true, Bool.not_eq_true', List.any_eq_false]
  have each : ∀ a ∈ laterL us s, a < us.length := fun a ha => by
    unfold laterL at ha
    exact List.mem_range.mp (List.mem_filter.mp ha).1
  constructor
  · intro h a ha
    have h2 := h a ha
    rw [decide_eq_true_iff, mem_had (each a ha)] at h2
    rw [h2]
    decide
  · intro h a ha
    have h2 := h a ha
    rw [decide_eq_true_iff, mem_had (each a ha)]
    simpa using h2
theorem fn_law (T : Txt w K mg) : FnF P w K mg base 11 "law" ["_law_script"] s_law (spLaw K) := by
  have g__law_state : FnAt P w K mg base 1 _ _ (spState K) := ok_state T
  have g__law_web : FnAt P w K mg base 3 _ _ (spWeb K) := ok_web T
  have g__law_simple : FnAt P w K mg base 7 _ _ (spSimple K) := ok_simple T
  have g__law_had : FnAt P w K mg base 1 _ _ (spHad K) := ok_had T
  have g_Row : MkAt P w K mg base 9 _ _ (spRowInit K (ga K "Row")) := ok_Row_init T
  have g_needed : FnAt P w K mg base 3 _ _ (spNeeded K (ga K "Row")) := ok_needed T
  have g_shown_from : FnAt P w K mg base 5 _ _ (spShown K (ga K "Row")) := ok_shown_from T
  have g_entries : FnAt P w K mg base 5 _ _ (spEntries K (ga K "Row")) := ok_entries T
  have k_shown_from := kw_shown_from (P := P) (base := base) T
  have k_entries := kw_entries (P := P) (base := base) T
  refine FnF.of T.f_law sc_law (fun vs H Q E h => ?_) (fun cdv A outer s H vs Q E hr h => ?_)
  · obtain ⟨a, ns, rfl, _⟩ := h
    rfl
  · obtain ⟨sc, ns, rfl, hs, q⟩ := h
    refine ⟨_, (pss_cons (ps_for PassesOwn.never rfl (pi_range1 (by rfl) T.z_range (pa_cons (pe_callB (call_max2 rfl) (by rfl) T.z_max bb_max (pa_cons pe_int (pa_cons (pe_callB (call_min2 rfl) (by rfl) T.z_min bb_min (pa_cons pe_int (pa_cons (pe_op op_fdiv (pe_op op_add (pe_callB (callK_len K) (by rfl) T.z_len PySem.boot_len (pa_cons (pv 0) pa_nil)) pe_int) pe_int) pa_nil))) pa_nil))) pa_nil)) (pg_name (i := 1) sc_law.nd rfl (Or.inl rfl)) (pss_cons (ps_set (i := 2) sc_law.nd rfl (Or.inl rfl) (pe_cal g__law_state hr (by decide) (pa_cons (pv 0) (pa_cons (pe_op op_mul pe_int (pv 1)) pa_nil))))
      (pss_cons (ps_asg (pe_cal g__law_web hr (by decide) (pa_cons (pv 2) (pa_cons pe_int pa_nil))) (pg_tup2 K (pg_name (i := 6) sc_law.nd rfl (Or.inr rfl)) (pg_name (i := 7) sc_law.nd rfl (Or.inl rfl))))
      (pss_cons (ps_asg (pe_tup (pa_cons (pe_mkA g_Row hr (by decide) (pa_cons pe_int (pa_cons pe_int (pa_cons (pe_cal g__law_simple hr (by decide) (pa_cons (pv 6) pa_nil)) pa_nil)))) (pa_cons (pe_lst pa_nil) pa_nil))) (pg_tup2 K (pg_name (i := 8) sc_law.nd rfl (Or.inr rfl)) (pg_name (i := 9) sc_law.nd rfl (Or.inl rfl))))
      (pss_cons (ps_set (i := 3) sc_law.nd rfl (Or.inr rfl) (pe_lc (own := [("_law_at", 13)]) rfl sc_law.nd (pi_range1 (by rfl) T.z_range (pa_cons (pe_callB (callK_len K) (by rfl) T.z_len PySem.boot_len (pa_cons (pv 6) pa_nil)) pa_nil)) (blkOk_by (own := [("_law_at", 13)]) (N := N_law) (sc := defScope s_law) (by decide +kernel)) (fun _ _ _ _ _ => (pg_name (i := 13) sc_law.nd rfl (Or.inl rfl))) (fun _ _ _ _ _ => pts_nil) (fun _ _ _ _ _ => (pe_ix (ixK_list K) (pe_cal g_needed hr (by decide) (pa_cons (pv 8) (pa_cons (pe_lst (pa_cons (pv 13) pa_nil)) pa_nil))) pe_int (fun _ _ => rfl)))))
      (pss_cons (ps_for PassesOwn.never rfl (pi_range1 (by rfl) T.z_range (pa_cons (pe_callB (callK_len K) (by rfl) T.z_len PySem.boot_len (pa_cons (pv 6) pa_nil)) pa_nil)) (pg_name (i := 4) sc_law.nd rfl (Or.inr rfl)) (pss_cons (ps_set (i := 10) sc_law.nd rfl (Or.inr rfl) (pe_cal g__law_had hr (by decide) (pa_cons (pv 6) (pa_cons (pv 4) pa_nil))))
      (pss_cons (ps_setLc (i := 11) (own := [("_law_at", 13)]) rfl sc_law.nd rfl rfl (sw_true rfl rfl rfl (by decide +kernel)) (pi_range1 (by rfl) T.z_range (pa_cons (pe_callB (callK_len K) (by rfl) T.z_len PySem.boot_len (pa_cons (pv 6) pa_nil)) pa_nil)) (blkOk_by (own := [("_law_at", 13)]) (N := N_law) (sc := defScope s_law) (by decide +kernel)) (fun _ _ _ _ _ => (pg_name (i := 13) sc_law.nd rfl (Or.inl rfl))) (fun _ _ _ _ _ => (pts_one (pt_cmpR op_ge (pe_ix (ixK_tup K) (pe_ix (ixK_list K) (pv 6) (pv 13) (fun _ _ => rfl)) pe_int (fun _ _ => rfl)) (pe_ix (ixK_tup K) (pe_ix (ixK_list K) (pv 6) (pv 4) (fun _ _ => rfl)) pe_int (fun _ _ => rfl)) (nomark _)))) (fun _ _ _ _ _ => (pv 13)))
      (pss_cons (PS.weak (t' := tDue K) (ps_if (pt_cmpR (op_eqD hr.units) (pe_lc (own := [("_law_at", 13)]) rfl sc_law.nd (pi_list (pv 11)) (blkOk_by (own := [("_law_at", 13)]) (N := N_law) (sc := defScope s_law) (by decide +kernel)) (fun _ _ _ _ _ => (pg_name (i := 13) sc_law.nd rfl (Or.inl rfl))) (fun _ _ _ _ _ => (pts_one (pt_cmpR (opK_notIn K) (pv 13) (pv 10) (by rfl)))) (fun _ _ _ _ _ => (pv 13))) (pe_lst pa_nil) (nomark _)) (pss_one (ps_expr (pe_bm PySem.F.plainAttrs_list PySem.F.slot_list_append PySem.F.type_list_append mt_append (pv 9) (pa_cons (pv 4) pa_nil)))) pss_nil) (fun D σ H hc => by
      obtain ⟨ha, la, du, had, later, acc, s, h10, h11, h9, h4, hl, eha, ela, edu, l24, a24, k⟩ := hc
      match σ, hl with
      | [y0, y1, y2, y3, y4, y5, y6, y7, y8, y9, y10, y11, y12, y13], _ =>
        refine ⟨_, h11, la, rfl, ⟨_, .of ela⟩, fun D2 hD2 => ?_⟩
        refine lc_it (walk_list (K := K) (xs := later.map nV)) (fun i H' => Same H H' ∧ H' D2 = some (.lst (((later.take i).filter fun a => !decide (a ∈ had)).map nV))) ⟨same_new hD2, upd_same⟩ (fun i H' _ h => .of (h.1 _ _ ela)) ?_ ?_
        · rintro i x H1 _ hi ⟨s1, d1⟩ ⟨rfl, hx⟩
          obtain ⟨a, hx2, rfl⟩ := mapGet hx
          refine ⟨rfl, ?_⟩
          refine ⟨_, rfl, _, h10, ha, _, rfl, .inl (.of (s1 _ _ eha)), rfl, flat_nats _, _, rfl, ?_⟩
          rw [inV_nat]
          have tk : later.take (i + 1) = later.take i ++ [a] := take_next hx2
          cases e : decide (a ∈ had) with
          | true =>
            refine iteF ⟨s1, ?_⟩
            rw [tk, List.filter_append, List.filter_cons_of_neg (by rw [e]; decide), List.filter_nil, List.append_nil]
            exact d1
          | false =>
            refine iteT ⟨_, rfl, _, d1, ?_, fun c o e2 => ?_, ?_⟩
            · rw [List.length_map]
              have h1 := List.length_filter_le (fun a => !decide (a ∈ had)) (later.take i)
              rw [List.length_take] at h1
              exact small1000 (by omega)
            · rw [upd_ne (ne_of_none e2 hD2)]
              exact s1 _ _ e2
            · rw [upd_same, tk, List.filter_append, List.filter_cons_of_pos (by rw [e]; decide), List.filter_nil, List.map_append]
              rfl
        rintro H1 ⟨s1, d1⟩
        rw [List.length_map, List.take_length] at d1
        refine ⟨line_le 0, fun e0 he0 => ?_⟩
        have s2 : Same H1 (upd H1 e0 (.lst [])) := same_new he0
        refine ⟨.list (((later.filter fun a => !decide (a ∈ had)).map fun n => ((n : Nat) : Int)).map PyData.int), .list (([] : List Int).map PyData.int), .lst (.of (s2 _ _ d1)) (by rw [nats_ints]; exact dp_ints _), .lst (.of upd_same) .nil, PySem.W.shaped_ints _, PySem.W.shaped_ints [], ?_⟩
        rw [eqv_ints]
        have S := s1.trans s2
        generalize (upd H1 e0 (.lst [])) = H2 at s2 S
        refine ⟨_, rfl, iteD (fun h0 => ?_) fun h0 => ?_⟩
        · have e : (later.all fun a => decide (a ∈ had)) = true := all_of_filter (List.map_eq_nil_iff.mp h0)
          refine ⟨_, h9, .inl ⟨rfl, _, .of (S _ _ edu)⟩, _, h4, du, _, _, rfl, rfl, S _ _ edu, by rw [List.length_map]; exact small1000 (by omega), ?_⟩
          refine k _ (S.kept.trans (kept_upd (by simp))) ?_
          rw [upd_same, if_pos e, List.map_append]
          rfl
        · have e : ¬ (later.all fun a => decide (a ∈ had)) = true := fun z => h0 (by rw [filter_of_all z]; rfl)
          refine k _ S.kept ?_
          rw [if_neg e]
          exact S _ _ edu))
      (pss_cons (ps_set (i := 12) sc_law.nd rfl (Or.inl rfl) (pe_callB cr_sortedI (by rfl) T.z_sorted bb_sorted (pa_cons (pe_lc (own := [("_law_at", 13)]) rfl sc_law.nd (pi_list (pv 10)) (blkOk_by (own := [("_law_at", 13)]) (N := N_law) (sc := defScope s_law) (by decide +kernel)) (fun _ _ _ _ _ => (pg_name (i := 13) sc_law.nd rfl (Or.inl rfl))) (fun _ _ _ _ _ => pts_nil) (fun _ _ _ _ _ => (pe_ix (ixK_tup K) (pe_ix (ixK_list K) (pv 6) (pv 13) (fun _ _ => rfl)) pe_int (fun _ _ => rfl)))) pa_nil)))
      (pss_cons (ps_if (PW.pt (pw_or (pt_cmpR (op_neD hr.units) (pe_cal g_shown_from hr (by decide) (pa_cons (pv 8) (pa_cons (pv 4) pa_nil))) (pv 12) (nomark _)) (pw_or1 (pt_cmpR (op_neD hr.units) (pe_calk k_shown_from hr (by decide) (pk_cons (pv 4) (pk_cons (pv 8) pk_nil))) (pv 12) (nomark _))))) (pss_one (ps_ret pe_bl)) pss_nil)
      (pss_one (ps_if (pt_cmpR (op_neD hr.units) (pv 10) (pe_lc (own := [("_law_at", 13)]) rfl sc_law.nd (pi_range1 (by rfl) T.z_range (pa_cons (pe_callB (callK_len K) (by rfl) T.z_len PySem.boot_len (pa_cons (pv 6) pa_nil)) pa_nil)) (blkOk_by (own := [("_law_at", 13)]) (N := N_law) (sc := defScope s_law) (by decide +kernel)) (fun _ _ _ _ _ => (pg_name (i := 13) sc_law.nd rfl (Or.inl rfl))) (fun _ _ _ _ _ => (pts_one (pt_cmpR op_ge (pe_ix (ixK_list K) (pv 3) (pv 13) (fun _ _ => rfl)) (pv 4) (nomark _)))) (fun _ _ _ _ _ => (pv 13))) (nomark _)) (pss_one (ps_ret pe_bl)) pss_nil))))))))
      (pss_cons (ps_set (i := 5) sc_law.nd rfl (Or.inl rfl) (pe_cal g_entries hr (by decide) (pa_cons (pv 8) pa_nil)))
      (pss_cons (ps_if (PW.pt (pw_or (pt_not (pt_val (pe_callB call_isi (by rfl) T.z_isinstance bb_isinstance (pa_cons (pv 5) (pa_cons (pe_bty T.z_list bb_list) pa_nil))))) (pw_or1 (pt_cmpR (op_neD hr.units) (pv 5) (pv 9) (nomark _))))) (pss_one (ps_ret pe_bl)) pss_nil)
      (pss_cons (ps_expr (pe_bm0 PySem.F.plainAttrs_list PySem.F.slot_list_clear PySem.F.type_list_clear mt_clear (pv 5)))
      (pss_one (ps_if (pt_cmpR (op_neD hr.units) (pe_calk k_entries hr (by decide) (pk_cons (pv 8) pk_nil)) (pv 9) (nomark _)) (pss_one (ps_ret pe_bl)) pss_nil)))))))))))
      (pss_one (ps_ret pe_bl))), ?_⟩
    have hb : ∀ m : Int, ∃ v : Int, (if (if m < 3 then m else 3) > 1 then (if m < 3 then m else 3) else 1) = v ∧ 1 ≤ v ∧ v ≤ 3 := fun m => by
      refine ⟨_, rfl, ?_, ?_⟩ <;> split <;> (try split) <;> omega
    refine ⟨_, rfl, sc, _, rfl, .inl hs, _, _, rfl, rfl, _, _, rfl, rfl, ⟨by decide, by decide⟩, _, _, rfl, _, _, rfl, ?_⟩
    obtain ⟨v, ev, v1, v3⟩ := hb ((((ns.map V.int).length : Nat) + 1 : Int) / 2)
    refine ⟨v, congrArg (fun x => [V.int x]) ev, by omega, by omega, ?_⟩
    refine for_it walk_range (fun i σ H' => ∃ x1 x2 x3 x4 x5 x6 x7 x8 x9 x10 x11 x12, σ = [some (.ref sc), x1, x2, x3, x4, x5, x6, x7, x8, x9, x10, x11, x12, none] ∧ Same H H')
      ⟨_, _, _, _, _, _, _, _, _, _, _, _, rfl, Same.refl _⟩ (fun _ _ _ _ _ => trivial) ?_ ?_
    · rintro i x σ H0 H' hi ⟨x1, x2, x3, x4, x5, x6, x7, x8, x9, x10, x11, x12, rfl, S⟩ ⟨rfl, rfl⟩
      have hs' : SqL K H' sc (ns.map V.int) := S.kept.lst (ps := []) hs (by simp)
      refine ⟨_, rfl, _, rfl, _, _, rfl, rfl, .inl ⟨by decide, by decide⟩, sc, 2 * i, ns, congrArg (fun x => [V.ref sc, V.int x]) (by omega), hs', fun st z H1 s1 zst e1 => ?_⟩
      refine ⟨_, rfl, st, z, rfl, e1, fun t wl rl us H2 W et hwl k2 => ?_⟩
      refine ⟨t, _, rfl, .of et, rfl, _, _, rfl, _, _, rfl, rfl, ?_⟩
      have S2 : Same H' H2 := Kept.same s1 k2 fun x hx => by rw [List.mem_singleton.mp hx]; exact zst
      obtain ⟨uw, huw, huws⟩ := id hwl
      have few := W.few
      refine ⟨_, rfl, wl, us, rfl, hwl, W, fun ul uv H3 s3 zul eul huv => ?_⟩
      intro p dx np ndx hne
      have s4 : Same H3 (upd (upd H3 dx (.own p)) p (.ins (ga K "Row") dx [])) := (same_new ndx).trans (same_new (by rw [upd_ne hne.symm]; exact np))
      refine ⟨p, ul, dx, us, uv, rfl, upd_same, .of (s4 _ _ eul), ne_of_none eul np, huv.len, fun j x hj => ?_, W.one, W.few, W.laid, W.nd, fun H4 row k4 => ⟨rfl, ?_⟩⟩
      · obtain ⟨a, ea, b, rfl, u⟩ := (uat_same huv s4).get hj
        exact ⟨b, ea, u⟩
      have S4 : Same H3 H4 := Kept.same s4 k4 fun x hx => by rw [List.mem_singleton.mp hx]; exact np
      have hwl4 : WebList K H4 wl us := (hwl.same s3).same S4
      refine ⟨line_le 0, fun du hdu => ⟨line_le 2, fun tp htp => ?_⟩⟩
      have s5 : Same H4 (upd H4 du (.lst [])) := same_new hdu
      have du5 : (upd H4 du (.lst [])) du = some (.lst []) := upd_same
      generalize (upd H4 du (.lst [])) = H5 at s5 du5 htp ⊢
      have s6 : Same H5 (upd H5 tp (.tup [.ref p, .ref du])) := same_new htp
      refine ⟨tp, _, rfl, .of upd_same, rfl, _, _, rfl, _, _, rfl, rfl, ?_⟩
      have du6 := s6 _ _ du5
      generalize (upd H5 tp (.tup [.ref p, .ref du])) = H6 at s6 du6 ⊢
      have S6 := s5.trans s6
      have row6 := row.same S6
      have hwl6 := hwl4.same S6
      obtain ⟨uw6, huw6, huws6⟩ := id hwl6
      have wlen : uw6.length = us.length := huws6.len
      -- firsts
      refine ⟨_, rfl, wl, _, rfl, .inl (.of huw6), us.length, (by rw [wlen]), by omega, by omega, fun fi hfi => ?_⟩
      have ndf : du ≠ fi := ne_of_none du6 hfi
      refine lc_it walk_range (fun j H' => Same H6 H' ∧ H' fi = some (.lst (((List.range j).map (first (readsN us))).map nV))) ⟨same_new hfi, upd_same⟩ (fun _ _ _ _ => trivial) ?_ ?_
      · rintro j y H7 H7' hj ⟨s7, d7⟩ ⟨rfl, hy⟩
        obtain rfl : y = nV j := by rw [hy]; exact congrArg V.int (Int.zero_add _)
        have hj2 : j < us.length := by simpa using hj
        refine ⟨rfl, t_yes (iteT ?_)⟩
        refine ⟨_, rfl, _, rfl, line_le 1, fun l hl => ?_⟩
        have s8 : Same H7' (upd H7' l (.lst [nV j])) := same_new hl
        refine ⟨p, l, us, j, rfl, row6.same (s7.trans s8), W, .of upd_same, hj2, fun r H9 ys s9 e9 y0 => ?_⟩
        refine ⟨r, _, 0, nV (first (readsN us) j), rfl, rfl, .of e9, atI_nat (i := 0) (by rw [List.getElem?_map, y0]; rfl), _, s9 _ _ (s8 _ _ d7), ?_, fun c o e => ?_, ?_⟩
        · rw [List.length_map, List.length_map, List.length_range]
          exact small1000 (by omega)
        · rw [upd_ne (ne_of_none e hfi)]
          exact s9 _ _ (s8 _ _ (s7 _ _ e))
        · rw [upd_same, List.range_succ, List.map_append, List.map_append]
          rfl
      rintro H7 ⟨s7, fi7⟩
      have fi7 : H7 fi = some (.lst (((List.range us.length).map (first (readsN us))).map nV)) := by simpa using fi7
      have row7 := row6.same s7
      have hwl7 := hwl6.same s7
      have du7 := s7 _ _ du6
      have zdu : ∀ {H' : Hp}, Same H4 H' → H4 du = none := fun _ => hdu
      -- the starts
      refine ⟨_, rfl, wl, _, rfl, .inl (.of (s7 _ _ huw6)), us.length, (by rw [wlen]), by omega, by omega, ?_⟩
      refine for_it walk_range (fun s σ H' => ∃ x3 x4 x5 x10 x11 x12, σ = [some (.ref sc), some (.int (0 + (i : Nat))), some (.ref st), some (.ref fi), x4, x5, some (.ref wl), some (.ref rl), some (.ref p), some (.ref du), x10, x11, x12, none] ∧ x3 = (0 : Nat) ∧ Same H4 H' ∧ RowAt K (ga K "Row") H' p us ∧ WebList K H' wl us ∧
          H' fi = some (.lst (((List.range us.length).map (first (readsN us))).map nV)) ∧ H' du = some (.lst (((List.range s).filter fun e => !(laterL us e).any (lead us e)).map nV)))
        ⟨_, _, _, _, _, _, rfl, rfl, S6.trans s7, row7, hwl7, fi7, du7⟩ (fun _ _ _ _ _ => trivial) ?_ ?_
      · rintro s y σ H8 H8' hs8 ⟨x3, x4, x5, x10, x11, x12, rfl, rfl, T4, row8, hwl8, fi8, du8⟩ ⟨rfl, hy⟩
        obtain rfl : y = nV s := by rw [hy]; exact congrArg V.int (Int.zero_add _)
        have hs2 : s < us.length := by simpa using hs8
        have us_s : us[s]? = some us[s] := by simp [hs2]
        obtain ⟨uw8, huw8, huws8⟩ := id hwl8
        have wlen8 : uw8.length = us.length := huws8.len
        -- had
        refine ⟨_, rfl, _, rfl, wl, us, s, rfl, hwl8, W, hs2, fun ha H9 s9 zha eha => ?_⟩
        have huw9 := s9 _ _ huw8
        have huws9 := wus_same huws8 s9
        -- later
        refine ⟨_, rfl, wl, _, rfl, .inl (.of huw9), us.length, (by rw [wlen8]), by omega, by omega, fun la hla => ?_⟩
        refine lc_it walk_range (fun j H' => Same H9 H' ∧ H' la = some (.lst (((List.range j).filter fun k => decide (tickOf us s ≤ tickOf us k)).map nV))) ⟨same_new hla, upd_same⟩ (fun _ _ _ _ => trivial) ?_ ?_
        · rintro j y H10 H10' hj ⟨s10, d10⟩ ⟨rfl, hy⟩
          obtain rfl : y = nV j := by rw [hy]; exact congrArg V.int (Int.zero_add _)
          have hj2 : j < us.length := by simpa using hj
          have us_j : us[j]? = some us[j] := by simp [hj2]
          obtain ⟨va, eva, aa, sa, rfl, ta1, ta2⟩ := (wus_same huws9 s10).get us_j
          obtain ⟨vb, evb, ab, sb, rfl, tb1, tb2⟩ := (wus_same huws9 s10).get us_s
          have tick_j := tickOf_eq us_j
          have tick_s := tickOf_eq us_s
          refine ⟨rfl, ?_⟩
          refine ⟨_, rfl, _, rfl, wl, _, _, _, rfl, rfl, .of (s10 _ _ huw9), atI_nat eva, aa, _, 0, _, rfl, rfl, ta1, rfl, _, rfl, _, rfl, wl, _, _, _, rfl, rfl, .of (s10 _ _ huw9), atI_nat evb, ab, _, 0, _, rfl, rfl, tb1, rfl, _, _, rfl, rfl, _, rfl, iteD (fun h1 => ?_) fun h1 => ?_⟩
          · have h1' : decide (tickOf us s ≤ tickOf us j) = true := by
              rw [tick_j, tick_s]
              exact decide_eq_true (by omega)
            refine ⟨_, rfl, _, d10, ?_, fun c o e => ?_, ?_⟩
            · rw [List.length_map]
              have := List.length_filter_le (fun k => decide (tickOf us s ≤ tickOf us k)) (List.range j)
              rw [List.length_range] at this
              exact small1000 (by omega)
            · rw [upd_ne (ne_of_none e hla)]
              exact s10 _ _ e
            · rw [upd_same, range_yes h1', List.map_append]
              rfl
          · have h1' : decide (tickOf us s ≤ tickOf us j) = false := by
              rw [tick_j, tick_s]
              exact decide_eq_false (by omega)
            refine ⟨s10, ?_⟩
            rw [range_no h1']
            exact d10
        rintro H10 ⟨s10, d10⟩
        have d10 : H10 la = some (.lst ((laterL us s).map nV)) := by
          simp only [Int.toNat_natCast] at d10
          exact d10
        have eha10 := s10 _ _ eha
        have S10 := s9.trans s10
        have l24 : (laterL us s).length ≤ 24 := by
          have := List.length_filter_le (fun k => decide (tickOf us s ≤ tickOf us k)) (List.range us.length)
          rw [List.length_range] at this
          exact Nat.le_trans this few
        have h24 : (hadL us s).length ≤ 24 := by
          have := List.length_filter_le (fun a => !lead us s a) (List.range us.length)
          rw [List.length_range] at this
          exact Nat.le_trans this few
        -- due
        refine ⟨ha, la, du, hadL us s, laterL us s, _, s, rfl, rfl, rfl, rfl, rfl, eha10, d10, S10 _ _ du8, l24, ?_, fun H11 k11 du11 => ?_⟩
        · have := List.length_filter_le (fun e => !(laterL us e).any (lead us e)) (List.range s)
          rw [List.length_range] at this
          omega
        have T10 : Same H4 H10 := T4.trans S10
        have T11 : Same H4 H11 := Kept.same T10 k11 fun x hx => by rw [List.mem_singleton.mp hx]; exact hdu
        have nha : ha ∉ [du] := fun z => by
          rw [List.mem_singleton.mp z] at zha
          rw [du8] at zha
          cases zha
        have eha11 := k11 _ _ eha10 nha
        have fi11 := k11 _ _ (S10 _ _ fi8) (by simpa using ndf.symm)
        have row11 := row.same T11
        have hwl11 := hwl4.same T11
        obtain ⟨uw11, huw11, huws11⟩ := id hwl11
        have wlen11 : uw11.length = us.length := huws11.len
        have du11 : H11 du = some (.lst (((List.range (s + 1)).filter fun e => !(laterL us e).any (lead us e)).map nV)) := by
          rw [du11, due_is]
          cases e : (laterL us s).any (lead us s) with
          | true => rw [range_no (by rw [e]; rfl)]; rfl
          | false => rw [range_yes (by rw [e]; rfl)]; rfl
        -- ticks
        refine ⟨_, rfl, ha, rfl, ⟨_, .of eha11⟩, fun D3 hD3 => ?_⟩
        refine lc_it (walk_list (K := K) (xs := (hadL us s).map nV)) (fun j H' => Same H11 H' ∧ H' D3 = some (.lst ((((hadL us s).take j).map fun a => ((tickOf us a : Nat) : Int)).map V.int))) ⟨same_new hD3, upd_same⟩ (fun j H' _ h => .of (h.1 _ _ eha11)) ?_ ?_
        · rintro j y H12 _ hj ⟨s12, d12⟩ ⟨rfl, hy⟩
          obtain ⟨a, ha2, rfl⟩ := mapGet hy
          have an : a < us.length := by
            have := List.mem_of_getElem? ha2
            unfold hadL at this
            exact List.mem_range.mp (List.mem_filter.mp this).1
          have us_a : us[a]? = some us[a] := by simp [an]
          obtain ⟨va, eva, aa, sa, rfl, ta1, ta2⟩ := (wus_same huws11 s12).get us_a
          have tick_a := tickOf_eq us_a
          refine ⟨rfl, t_yes (iteT ?_)⟩
          refine ⟨_, rfl, _, rfl, wl, _, _, _, rfl, rfl, .of (s12 _ _ huw11), atI_nat eva, aa, _, 0, _, rfl, rfl, ta1, rfl, _, d12, ?_, fun c o e => ?_, ?_⟩
          · rw [List.length_map, List.length_map, List.length_take]
            exact small1000 (by omega)
          · rw [upd_ne (ne_of_none e hD3)]
            exact s12 _ _ e
          · rw [upd_same, take_next ha2, List.map_append, List.map_append, ← tick_a]
            rfl
        rintro H12 ⟨s12, d12⟩
        rw [List.length_map, List.take_length] at d12
        refine ⟨D3, _, rfl, .of d12, fun ns2 tk pm2 so2 htk => ?_⟩
        have s13 : Same H12 (upd H12 tk (.lst (ns2.map V.int))) := same_new htk
        have tk13 : (upd H12 tk (.lst (ns2.map V.int))) tk = some (.lst (ns2.map V.int)) := upd_same
        generalize (upd H12 tk (.lst (ns2.map V.int))) = H13 at s13 tk13 ⊢
        have S13 := s12.trans s13
        -- the two askings
        have ask : ∀ (ns1 : List Int), ns1.Perm (shownL us s) → ns1.Pairwise (· ≤ ·) → ns1 = ns2 := fun ns1 pm1 so1 => sorted_eq (pm1.trans pm2.symm) so1 so2
        refine ⟨_, rfl, _, rfl, p, us, s, rfl, row11.same S13, W, fun q1 H14 ns1 s14 e14 pm1 so1 => ?_⟩
        refine ⟨_, rfl, .list (ns1.map PyData.int), .list (ns2.map PyData.int), .lst (.of e14) (dp_ints _), .lst (.of (s14 _ _ tk13)) (dp_ints _), PySem.W.shaped_ints _, PySem.W.shaped_ints _, _, rfl, ?_⟩
        rw [eqv_ints, decide_eq_true (ask ns1 pm1 so1)]
        refine iteF ?_
        refine ⟨_, rfl, _, rfl, rfl, rfl, p, us, s, rfl, row11.same (S13.trans s14), W, fun q2 H15 ns3 s15 e15 pm3 so3 => ?_⟩
        refine ⟨_, rfl, .list (ns3.map PyData.int), .list (ns2.map PyData.int), .lst (.of e15) (dp_ints _), .lst (.of (s15 _ _ (s14 _ _ tk13))) (dp_ints _), PySem.W.shaped_ints _, PySem.W.shaped_ints _, _, rfl, ?_⟩
        rw [eqv_ints, decide_eq_true (ask ns3 pm3 so3)]
        refine iteF ?_
        -- had against the firsts
        have S15 : Same H11 H15 := (S13.trans s14).trans s15
        have eha15 := S15 _ _ eha11
        have fi15 := S15 _ _ fi11
        have huw15 := S15 _ _ huw11
        refine ⟨_, rfl, _, rfl, wl, _, rfl, .inl (.of huw15), us.length, (by rw [wlen11]), by omega, by omega, fun D4 hD4 => ?_⟩
        refine lc_it walk_range (fun j H' => Same H15 H' ∧ H' D4 = some (.lst (((List.range j).filter fun a => !lead us s a).map nV))) ⟨same_new hD4, upd_same⟩ (fun _ _ _ _ => trivial) ?_ ?_
        · rintro j y H16 H16' hj ⟨s16, d16⟩ ⟨rfl, hy⟩
          obtain rfl : y = nV j := by rw [hy]; exact congrArg V.int (Int.zero_add _)
          have hj2 : j < us.length := by simpa using hj
          refine ⟨rfl, ?_⟩
          refine ⟨_, rfl, _, rfl, fi, _, _, nV (first (readsN us) j), rfl, rfl, .of (s16 _ _ fi15), atI_nat (by rw [List.getElem?_map, List.getElem?_map, List.getElem?_range hj2]; rfl), _, rfl, _, _, rfl, rfl, _, rfl, iteD (fun h1 => ?_) fun h1 => ?_⟩
          · have h1' : (!lead us s j) = true := by
              unfold lead
              rw [decide_eq_false (by omega)]
              rfl
            refine ⟨_, rfl, _, d16, ?_, fun c o e => ?_, ?_⟩
            · rw [List.length_map]
              have := List.length_filter_le (fun a => !lead us s a) (List.range j)
              rw [List.length_range] at this
              exact small1000 (by omega)
            · rw [upd_ne (ne_of_none e hD4)]
              exact s16 _ _ e
            · rw [upd_same, range_yes h1', List.map_append]
              rfl
          · have h1' : (!lead us s j) = false := by
              unfold lead
              rw [decide_eq_true (by omega)]
              rfl
            refine ⟨s16, ?_⟩
            rw [range_no h1']
            exact d16
        rintro H16 ⟨s16, d16⟩
        have d16 : H16 D4 = some (.lst ((hadL us s).map nV)) := by
          simp only [Int.toNat_natCast] at d16
          exact d16
        refine ⟨.list (((hadL us s).map fun n => ((n : Nat) : Int)).map PyData.int), .list (((hadL us s).map fun n => ((n : Nat) : Int)).map PyData.int), .lst (.of (s16 _ _ eha15)) (by rw [nats_ints]; exact dp_ints _), .lst (.of d16) (by rw [nats_ints]; exact dp_ints _), PySem.W.shaped_ints _, PySem.W.shaped_ints _, _, rfl, ?_⟩
        rw [eqv_ints, decide_eq_true rfl]
        refine iteF ?_
        have S16 := S15.trans s16
        have T16 := T11.trans S16
        exact ⟨_, _, _, _, _, _, rfl, rfl, T16, row.same T16, hwl4.same T16, S16 _ _ fi11, S16 _ _ du11⟩
      · rintro σ H8 ⟨x3, x4, x5, x10, x11, x12, rfl, rfl, T4, row8, hwl8, fi8, du8⟩
        have du8 : H8 du = some (.lst ((entriesL us).map nV)) := by
          simp only [Int.toNat_natCast] at du8
          exact du8
        refine ⟨_, rfl, p, us, rfl, row8, W, fun fo H9 s9 zfo efo => ?_⟩
        have du9 := s9 _ _ du8
        have nfd : du ≠ fo := fun z => by
          rw [← z, du8] at zfo
          cases zfo
        refine ⟨_, rfl, _, _, _, _, true, rfl, .ty _, tyL (K := K) (.of efo), kit_ll, _, rfl, iteF ?_⟩
        refine ⟨_, rfl, _, rfl, .list (((entriesL us).map fun n => ((n : Nat) : Int)).map PyData.int), .list (((entriesL us).map fun n => ((n : Nat) : Int)).map PyData.int), .lst (.of efo) (by rw [nats_ints]; exact dp_ints _), .lst (.of du9) (by rw [nats_ints]; exact dp_ints _), PySem.W.shaped_ints _, PySem.W.shaped_ints _, _, rfl, ?_⟩
        rw [eqv_ints, decide_eq_true rfl]
        refine iteF ?_
        refine ⟨_, rfl, .inl ⟨rfl, _, .of efo⟩, fo, _, rfl, rfl, efo, ?_⟩
        have S10 : Same H8 (upd H9 fo (.lst [])) := fun c o e => by
          rw [upd_ne (ne_of_none e zfo)]
          exact s9 _ _ e
        have du10 : (upd H9 fo (.lst [])) du = some (.lst ((entriesL us).map nV)) := by rw [upd_ne nfd]; exact du9
        generalize (upd H9 fo (.lst [])) = H10 at S10 du10 ⊢
        refine ⟨_, rfl, rfl, rfl, p, us, rfl, row8.same S10, W, fun fo2 H11 s11 _ efo2 => ?_⟩
        refine ⟨_, rfl, .list (((entriesL us).map fun n => ((n : Nat) : Int)).map PyData.int), .list (((entriesL us).map fun n => ((n : Nat) : Int)).map PyData.int), .lst (.of efo2) (by rw [nats_ints]; exact dp_ints _), .lst (.of (s11 _ _ du10)) (by rw [nats_ints]; exact dp_ints _), PySem.W.shaped_ints _, PySem.W.shaped_ints _, _, rfl, ?_⟩
        rw [eqv_ints, decide_eq_true rfl]
        refine iteF ?_
        exact ⟨_, _, _, _, _, _, _, _, _, _, _, _, rfl, ((((S.trans S2).trans s3).trans S4).trans T4).trans (S10.trans s11)⟩
    · rintro σ H' ⟨x1, x2, x3, x4, x5, x6, x7, x8, x9, x10, x11, x12, rfl, S⟩
      exact q H'
end
end K36
namespace K36
open L2 PySem
open PySem.Spec PyProof.Rows
abbrev R : PySem.W.OpenRow := PySem.W.OpenLaw.row PySem.Challenge.rw_sameshown_k36_whole_entries
theorem fun_of {K : PySem.W.Frag} {x qual : Str} {st : Stmt} {f : Addr} {fd : FuncData} (F : FunD K x qual (defArgs st) (defBody st) (defScope st) [] [] f fd) : Fun K x qual st f fd := by
  obtain ⟨oc, od, dV, kV, doc, pm, an, cdv, ct, osl, e, lk, hcd, hD, _⟩ := F.ex
  rcases hD with ⟨_, rfl⟩ | ⟨z, _⟩
  · exact ⟨⟨oc, od, kV, doc, pm, an, cdv, ct, osl, e, lk, hcd⟩, F.kp⟩
  · exact absurd rfl z
/-! ### what is looked at beside the hook's own facts -/
def tupX (K : PySem.W.Frag) (x : Str) (vs : List V) : Bool := match K.lookup (ga K x) with
  | some ⟨.type c, none, .seq its _, _⟩ => decide (c = "tuple") && (decide (its.size ≤ sizeLine) && He.relAll vs its.toList)
  | _ => false
theorem tupX_ok {K : PySem.W.Frag} {x : Str} {vs : List V} (h : tupX K x vs = true) : TupK K (ga K x) vs := by
  unfold tupX at h
  cases q : K.lookup (ga K x) with
  | none =>
    rw [q] at h
    cases h
  | some o =>
    obtain ⟨oc, od, dt, osl⟩ := o
    rw [q] at h
    cases oc with
    | type c =>
      cases od with
      | none =>
        cases dt with
        | seq its n =>
          obtain ⟨h1, h2⟩ := He.ba (show (decide (c = "tuple") && (decide (its.size ≤ sizeLine) && He.relAll vs its.toList)) = true from h)
          obtain ⟨h3, h4⟩ := He.ba h2
          exact ⟨_, its, n, q, congrArg Value.type (of_decide_eq_true h1), rfl, of_decide_eq_true h3, He.relAll_ok h4, rfl⟩
        | _ => cases h
      | some a => cases dt <;> cases h
    | _ => cases od <;> cases dt <;> cases h
def clsX (K : PySem.W.Frag) (C m : Str) : Bool := match PySem.W.findCls K (.ref (ga K C)) (.type "type") m with
  | some (.val (.ref a)) => decide (a = ma K (ga K C) m)
  | _ => false
theorem clsX_ok {K : PySem.W.Frag} {C m : Str} (h : clsX K C m = true) : PySem.W.findCls K (.ref (ga K C)) (.type "type") m = some (.val (.ref (ma K (ga K C) m))) := by
  unfold clsX at h
  split at h
  · rename_i a e
    rw [e, of_decide_eq_true h]
  · cases h
def readX (K : PySem.W.Frag) (C : Str) : Bool := PySem.W.readsIn K (ga K C) (.type "type") && He.eqO (PySem.W.specialIn K (.ref (ga K C)) "__getattribute__") (some (some (.builtin "type.__getattribute__")))
theorem readX_ok {K : PySem.W.Frag} {C : Str} (h : readX K C = true) : ClX.CRead K (ga K C) (.type "type") := by
  obtain ⟨h1, h2⟩ := He.ba h
  exact ⟨h1, He.eqO_ok h2⟩
def formsKeys : List Str := ["flat", "left", "above", "slope", "as", "moved", "both"]
def formsVals : List (Str × He.Dv) := [("flat", .str "s"), ("as", .str "r")]
def extra (K : PySem.W.Frag) : Bool := tupX K "NO_REST" zeros && (tupX K "BESIDE" beside && (He.valsB K (ga K "FORMS") formsVals && (clsX K "Coder" "__init__" && readX K "Coder")))

def fa0 : List He.Fa := [.free "int",
  .free "bool",
  .free "str",
  .free "list",
  .free "tuple",
  .free "len",
  .free "abs",
  .free "all",
  .free "any",
  .free "max",
  .free "min",
  .free "sorted",
  .free "isinstance",
  .free "range",
  .free "enumerate",
  .free "zip",
  .int "LEAST_SIDE" 4,
  .int "MOST_SIDE" 32,
  .int "MOST_TICK" 1000,
  .int "MOST_STEP" 64,
  .int "MOST_VECTOR" 32,
  .int "MOST_REST" 4000,
  .int "SLOTS" 4,
  .int "MOST_READS" 2,
  .int "MOST_UNITS" 24,
  .int "EVEN" 1024,
  .int "WHOLE" 2048,
  .int "SLOW" 32,
  .int "LEAST_BREADTH" 16777216,
  .int "FIRST_BREADTH" 4294967296]
def fa1 : List He.Fa := [.int "AHEAD" 4,
  .int "MOST_NUMBER" 8190,
  .glo "NO_REST",
  .glo "BESIDE",
  .glo "ORDER",
  .glo "FORMS",
  .glo "is_whole",
  .glo "is_list",
  .glo "is_side",
  .glo "is_letter",
  .glo "kinds_for",
  .glo "is_rest",
  .glo "is_part",
  .glo "is_choice",
  .glo "are_choices",
  .glo "first_vector",
  .glo "middle",
  .glo "guessed_vector",
  .glo "signs_in",
  .glo "lower_signs",
  .glo "letters_in",
  .glo "need_sign",
  .glo "is_unit",
  .glo "write_rest",
  .glo "write_choice",
  .glo "read_rest",
  .glo "read_choice",
  .glo "need_size",
  .glo "letters_of",
  .glo "read_choices"]
def fa2 : List He.Fa := [.glo "choices_of",
  .glo "come_to",
  .glo "needed",
  .glo "leads_ahead",
  .glo "entries",
  .glo "shown_from",
  .glo "_law_state",
  .glo "_law_next",
  .glo "_law_order",
  .glo "_law_web",
  .glo "_law_simple",
  .glo "_law_had",
  .glo "law",
  .glo "Coder",
  .glo "Writer",
  .glo "Reader",
  .glo "Row",
  .cls "Writer",
  .noat "Writer" "low",
  .noat "Writer" "breadth",
  .noat "Writer" "room",
  .noat "Writer" "sent",
  .noat "Writer" "learned_ones",
  .cls "Reader",
  .noat "Reader" "low",
  .noat "Reader" "breadth",
  .noat "Reader" "room",
  .noat "Reader" "sent",
  .noat "Reader" "learned_ones",
  .noat "Reader" "signs"]
def fa3 : List He.Fa := [.noat "Reader" "code",
  .cls "Row",
  .noat "Row" "width",
  .noat "Row" "height",
  .noat "Row" "all_units",
  .noat "Row" "all_choices",
  .noat "Row" "all_reads",
  .noat "Row" "places_by_tick",
  .meth "Writer" "chance_of",
  .meth "Writer" "narrowed",
  .meth "Writer" "learn",
  .meth "Writer" "bit",
  .meth "Writer" "even",
  .meth "Writer" "number",
  .meth "Writer" "letters",
  .meth "Reader" "chance_of",
  .meth "Reader" "narrowed",
  .meth "Reader" "learn",
  .meth "Reader" "sign_at",
  .meth "Reader" "read_by",
  .meth "Reader" "bit",
  .meth "Reader" "even",
  .meth "Reader" "number",
  .meth "Row" "take",
  .meth "Row" "units",
  .meth "Row" "reads_at",
  .mkr "Writer",
  .mkr "Reader",
  .mkr "Row"]
def fa : List He.Fa := fa0 ++ fa1 ++ fa2 ++ fa3
def fn0 : List He.DefD := [⟨("is_whole", none), "is_whole", "is_whole", defArgs s_is_whole, defBody s_is_whole, defScope s_is_whole, [], []⟩,
  ⟨("is_list", none), "is_list", "is_list", defArgs s_is_list, defBody s_is_list, defScope s_is_list, [], []⟩,
  ⟨("is_side", none), "is_side", "is_side", defArgs s_is_side, defBody s_is_side, defScope s_is_side, [], []⟩,
  ⟨("is_letter", none), "is_letter", "is_letter", defArgs s_is_letter, defBody s_is_letter, defScope s_is_letter, [], []⟩,
  ⟨("kinds_for", none), "kinds_for", "kinds_for", defArgs s_kinds_for, defBody s_kinds_for, defScope s_kinds_for, [], []⟩,
  ⟨("is_rest", none), "is_rest", "is_rest", defArgs s_is_rest, defBody s_is_rest, defScope s_is_rest, [], []⟩,
  ⟨("is_part", none), "is_part", "is_part", defArgs s_is_part, defBody s_is_part, defScope s_is_part, [], []⟩,
  ⟨("is_choice", none), "is_choice", "is_choice", defArgs s_is_choice, defBody s_is_choice, defScope s_is_choice, [], []⟩,
  ⟨("are_choices", none), "are_choices", "are_choices", defArgs s_are_choices, defBody s_are_choices, defScope s_are_choices, [], []⟩,
  ⟨("first_vector", none), "first_vector", "first_vector", defArgs s_first_vector, defBody s_first_vector, defScope s_first_vector, [], []⟩,
  ⟨("middle", none), "middle", "middle", defArgs s_middle, defBody s_middle, defScope s_middle, [], []⟩,
  ⟨("guessed_vector", none), "guessed_vector", "guessed_vector", defArgs s_guessed_vector, defBody s_guessed_vector, defScope s_guessed_vector, [], []⟩,
  ⟨("signs_in", none), "signs_in", "signs_in", defArgs s_signs_in, defBody s_signs_in, defScope s_signs_in, [], []⟩,
  ⟨("lower_signs", none), "lower_signs", "lower_signs", defArgs s_lower_signs, defBody s_lower_signs, defScope s_lower_signs, [], []⟩,
  ⟨("letters_in", none), "letters_in", "letters_in", defArgs s_letters_in, defBody s_letters_in, defScope s_letters_in, [], []⟩,
  ⟨("need_sign", none), "need_sign", "need_sign", defArgs s_need_sign, defBody s_need_sign, defScope s_need_sign, [], []⟩,
  ⟨("is_unit", none), "is_unit", "is_unit", defArgs s_is_unit, defBody s_is_unit, defScope s_is_unit, [], []⟩,
  ⟨("write_rest", none), "write_rest", "write_rest", defArgs s_write_rest, defBody s_write_rest, defScope s_write_rest, [], []⟩,
  ⟨("write_choice", none), "write_choice", "write_choice", defArgs s_write_choice, defBody s_write_choice, defScope s_write_choice, [], []⟩,
  ⟨("read_rest", none), "read_rest", "read_rest", defArgs s_read_rest, defBody s_read_rest, defScope s_read_rest, [], []⟩]
def fn1 : List He.DefD := [⟨("read_choice", none), "read_choice", "read_choice", defArgs s_read_choice, defBody s_read_choice, defScope s_read_choice, [], []⟩,
  ⟨("need_size", none), "need_size", "need_size", defArgs s_need_size, defBody s_need_size, defScope s_need_size, [], []⟩,
  ⟨("letters_of", none), "letters_of", "letters_of", defArgs s_letters_of, defBody s_letters_of, defScope s_letters_of, [], []⟩,
  ⟨("read_choices", none), "read_choices", "read_choices", defArgs s_read_choices, defBody s_read_choices, defScope s_read_choices, [], []⟩,
  ⟨("choices_of", none), "choices_of", "choices_of", defArgs s_choices_of, defBody s_choices_of, defScope s_choices_of, [], []⟩,
  ⟨("come_to", none), "come_to", "come_to", defArgs s_come_to, defBody s_come_to, defScope s_come_to, [], []⟩,
  ⟨("needed", none), "needed", "needed", defArgs s_needed, defBody s_needed, defScope s_needed, [], []⟩,
  ⟨("leads_ahead", none), "leads_ahead", "leads_ahead", defArgs s_leads_ahead, defBody s_leads_ahead, defScope s_leads_ahead, [], []⟩,
  ⟨("entries", none), "entries", "entries", defArgs s_entries, defBody s_entries, defScope s_entries, [], []⟩,
  ⟨("shown_from", none), "shown_from", "shown_from", defArgs s_shown_from, defBody s_shown_from, defScope s_shown_from, [], []⟩,
  ⟨("_law_state", none), "_law_state", "_law_state", defArgs s__law_state, defBody s__law_state, defScope s__law_state, [], []⟩,
  ⟨("_law_next", none), "_law_next", "_law_next", defArgs s__law_next, defBody s__law_next, defScope s__law_next, [], []⟩,
  ⟨("_law_order", none), "_law_order", "_law_order", defArgs s__law_order, defBody s__law_order, defScope s__law_order, [], []⟩,
  ⟨("_law_web", none), "_law_web", "_law_web", defArgs s__law_web, defBody s__law_web, defScope s__law_web, [], []⟩,
  ⟨("_law_simple", none), "_law_simple", "_law_simple", defArgs s__law_simple, defBody s__law_simple, defScope s__law_simple, [], []⟩,
  ⟨("_law_had", none), "_law_had", "_law_had", defArgs s__law_had, defBody s__law_had, defScope s__law_had, [], []⟩,
  ⟨("law", none), "law", "law", defArgs s_law, defBody s_law, defScope s_law, [], []⟩,
  ⟨("Writer", some "chance_of"), "chance_of", "Coder.chance_of", defArgs s_Coder_chance_of, defBody s_Coder_chance_of, defScope s_Coder_chance_of, [], []⟩,
  ⟨("Writer", some "narrowed"), "narrowed", "Coder.narrowed", defArgs s_Coder_narrowed, defBody s_Coder_narrowed, defScope s_Coder_narrowed, [], []⟩,
  ⟨("Writer", some "learn"), "learn", "Coder.learn", defArgs s_Coder_learn, defBody s_Coder_learn, defScope s_Coder_learn, [], []⟩]
def fn2 : List He.DefD := [⟨("Writer", some "bit"), "bit", "Writer.bit", defArgs s_Writer_bit, defBody s_Writer_bit, defScope s_Writer_bit, [], []⟩,
  ⟨("Writer", some "even"), "even", "Writer.even", defArgs s_Writer_even, defBody s_Writer_even, defScope s_Writer_even, [], []⟩,
  ⟨("Writer", some "number"), "number", "Writer.number", defArgs s_Writer_number, defBody s_Writer_number, defScope s_Writer_number, [], []⟩,
  ⟨("Writer", some "letters"), "letters", "Writer.letters", defArgs s_Writer_letters, defBody s_Writer_letters, defScope s_Writer_letters, [], []⟩,
  ⟨("Reader", some "chance_of"), "chance_of", "Coder.chance_of", defArgs s_Coder_chance_of, defBody s_Coder_chance_of, defScope s_Coder_chance_of, [], []⟩,
  ⟨("Reader", some "narrowed"), "narrowed", "Coder.narrowed", defArgs s_Coder_narrowed, defBody s_Coder_narrowed, defScope s_Coder_narrowed, [], []⟩,
  ⟨("Reader", some "learn"), "learn", "Coder.learn", defArgs s_Coder_learn, defBody s_Coder_learn, defScope s_Coder_learn, [], []⟩,
  ⟨("Reader", some "sign_at"), "sign_at", "Reader.sign_at", defArgs s_Reader_sign_at, defBody s_Reader_sign_at, defScope s_Reader_sign_at, [], []⟩,
  ⟨("Reader", some "read_by"), "read_by", "Reader.read_by", defArgs s_Reader_read_by, defBody s_Reader_read_by, defScope s_Reader_read_by, [], []⟩,
  ⟨("Reader", some "bit"), "bit", "Reader.bit", defArgs s_Reader_bit, defBody s_Reader_bit, defScope s_Reader_bit, [], []⟩,
  ⟨("Reader", some "even"), "even", "Reader.even", defArgs s_Reader_even, defBody s_Reader_even, defScope s_Reader_even, [], []⟩,
  ⟨("Reader", some "number"), "number", "Reader.number", defArgs s_Reader_number, defBody s_Reader_number, defScope s_Reader_number, [], []⟩,
  ⟨("Row", some "take"), "take", "Row.take", defArgs s_Row_take, defBody s_Row_take, defScope s_Row_take, [], []⟩,
  ⟨("Row", some "units"), "units", "Row.units", defArgs s_Row_units, defBody s_Row_units, defScope s_Row_units, [], []⟩,
  ⟨("Row", some "reads_at"), "reads_at", "Row.reads_at", defArgs s_Row_reads_at, defBody s_Row_reads_at, defScope s_Row_reads_at, [], []⟩,
  ⟨("Writer", some "__init__"), "__init__", "Coder.__init__", defArgs s_Coder___init__, defBody s_Coder___init__, defScope s_Coder___init__, [], []⟩,
  ⟨("Reader", some "__init__"), "__init__", "Reader.__init__", defArgs s_Reader___init__, defBody s_Reader___init__, defScope s_Reader___init__, [], []⟩,
  ⟨("Row", some "__init__"), "__init__", "Row.__init__", defArgs s_Row___init__, defBody s_Row___init__, defScope s_Row___init__, [], []⟩,
  ⟨("Coder", some "__init__"), "__init__", "Coder.__init__", defArgs s_Coder___init__, defBody s_Coder___init__, defScope s_Coder___init__, [], []⟩]
def fn : List He.DefD := fn0 ++ fn1 ++ fn2
def ts : List He.Tab := [((fun K => ga K "FORMS"), formsKeys)]
abbrev AlX : Type := He.AlT × Bool
def obsX (K : PySem.W.Frag) : AlX := (He.obsT fa fn ts K, extra K)
def valX (w : World) : AlX := (He.valT fn ts w, true)
def obsXG (g : Addr → Option Obj) : AlX := obsX (He.frG g (He.asD g 5 ++ [cStatics]))
def SaysX (w : World) (K : PySem.W.Frag) : Prop := obsX K = valX w
def hookX : PySem.W.Hook where
  α := AlX
  obs := fun s => obsXG s.heap.get?
  val := fun w => valX w
  says := fun w h => ∃ K : PySem.W.Frag, K.In h ∧ SaysX w K
  of := fun _ _ e => ⟨_, He.frG_in, e⟩
  keeps := fun _ _ _ ⟨K, hK, c⟩ k => ⟨K, PySem.W.Frag.In.keeps hK k, c⟩
def ob (s : PySem.W.SharedT) : AlX := obsXG (HandSHeadRun.getT s)
theorem ob_eq (s : PySem.W.SharedT) : ob s = hookX.obs s.abs := by
  have e : HandSHeadRun.getT s = s.abs.heap.get? := funext (HandSHeadRun.getT_eq s)
  unfold ob
  rw [e]
  rfl
section
variable {w : World} {K : PySem.W.Frag} {h : Heap} {mg : Str → Option Value}
theorem forms_ok (d : ∃ es n, KDict K w (ga K "FORMS") es n) {q : Str × He.Dv} (e : ∃ u, PySem.W.nsIn K (ga K "FORMS") q.1 = some (some u) ∧ RelV (q.2.v K) u) : KDct K w (ga K "FORMS") q.1 (q.2.v K) := by
  obtain ⟨es, n, d1, d2, d3⟩ := d
  obtain ⟨u, e1, e2⟩ := e
  exact ⟨es, n, u, d1, d2, e1, e2⟩
theorem txt (X : K.In h) (G : h.Ns mainGlobals mg) (c : SaysX w K) : Txt w K mg := by
  have c1 : He.SaysT fa fn ts w K := congrArg (fun z : AlX => z.1) c
  have c2 : extra K = true := congrArg (fun z : AlX => z.2) c
  obtain ⟨x1, c2⟩ := He.ba c2
  obtain ⟨x2, c2⟩ := He.ba c2
  obtain ⟨x3, c2⟩ := He.ba c2
  obtain ⟨x4, x5⟩ := He.ba c2
  have d := c1.d
  have tab := c1.tab 0 (t := ((fun K => ga K "FORMS"), formsKeys)) rfl
  exact {
    z_int := He.free_ok X G (d.fact 0 (f := .free "int") rfl)
    z_bool := He.free_ok X G (d.fact 1 (f := .free "bool") rfl)
    z_str := He.free_ok X G (d.fact 2 (f := .free "str") rfl)
    z_list := He.free_ok X G (d.fact 3 (f := .free "list") rfl)
    z_tuple := He.free_ok X G (d.fact 4 (f := .free "tuple") rfl)
    z_len := He.free_ok X G (d.fact 5 (f := .free "len") rfl)
    z_abs := He.free_ok X G (d.fact 6 (f := .free "abs") rfl)
    z_all := He.free_ok X G (d.fact 7 (f := .free "all") rfl)
    z_any := He.free_ok X G (d.fact 8 (f := .free "any") rfl)
    z_max := He.free_ok X G (d.fact 9 (f := .free "max") rfl)
    z_min := He.free_ok X G (d.fact 10 (f := .free "min") rfl)
    z_sorted := He.free_ok X G (d.fact 11 (f := .free "sorted") rfl)
    z_isinstance := He.free_ok X G (d.fact 12 (f := .free "isinstance") rfl)
    z_range := He.free_ok X G (d.fact 13 (f := .free "range") rfl)
    z_enumerate := He.free_ok X G (d.fact 14 (f := .free "enumerate") rfl)
    z_zip := He.free_ok X G (d.fact 15 (f := .free "zip") rfl)
    c_LEAST_SIDE := He.int_ok X G (d.fact 16 (f := .int "LEAST_SIDE" 4) rfl)
    c_MOST_SIDE := He.int_ok X G (d.fact 17 (f := .int "MOST_SIDE" 32) rfl)
    c_MOST_TICK := He.int_ok X G (d.fact 18 (f := .int "MOST_TICK" 1000) rfl)
    c_MOST_STEP := He.int_ok X G (d.fact 19 (f := .int "MOST_STEP" 64) rfl)
    c_MOST_VECTOR := He.int_ok X G (d.fact 20 (f := .int "MOST_VECTOR" 32) rfl)
    c_MOST_REST := He.int_ok X G (d.fact 21 (f := .int "MOST_REST" 4000) rfl)
    c_SLOTS := He.int_ok X G (d.fact 22 (f := .int "SLOTS" 4) rfl)
    c_MOST_READS := He.int_ok X G (d.fact 23 (f := .int "MOST_READS" 2) rfl)
    c_MOST_UNITS := He.int_ok X G (d.fact 24 (f := .int "MOST_UNITS" 24) rfl)
    c_EVEN := He.int_ok X G (d.fact 25 (f := .int "EVEN" 1024) rfl)
    c_WHOLE := He.int_ok X G (d.fact 26 (f := .int "WHOLE" 2048) rfl)
    c_SLOW := He.int_ok X G (d.fact 27 (f := .int "SLOW" 32) rfl)
    c_LEAST_BREADTH := He.int_ok X G (d.fact 28 (f := .int "LEAST_BREADTH" 16777216) rfl)
    c_FIRST_BREADTH := He.int_ok X G (d.fact 29 (f := .int "FIRST_BREADTH" 4294967296) rfl)
    c_AHEAD := He.int_ok X G (d.fact 30 (f := .int "AHEAD" 4) rfl)
    c_MOST_NUMBER := He.int_ok X G (d.fact 31 (f := .int "MOST_NUMBER" 8190) rfl)
    c_NO_REST := ⟨He.glo_ok X G (d.fact 32 (f := .glo "NO_REST") rfl), tupX_ok x1⟩
    c_BESIDE := ⟨He.glo_ok X G (d.fact 33 (f := .glo "BESIDE") rfl), tupX_ok x2⟩
    c_ORDER := He.glo_ok X G (d.fact 34 (f := .glo "ORDER") rfl)
    c_FORMS := ⟨He.glo_ok X G (d.fact 35 (f := .glo "FORMS") rfl), forms_ok (q := ("flat", .str "s")) tab (He.valsB_ok x3 (List.Mem.head _)), forms_ok (q := ("as", .str "r")) tab (He.valsB_ok x3 (List.Mem.tail _ (List.Mem.head _)))⟩
    f_is_whole := ⟨He.glo_ok X G (d.fact 36 (f := .glo "is_whole") rfl), let ⟨fd, D⟩ := d.def_ 0 rfl; ⟨fd, fun_of D⟩⟩
    f_is_list := ⟨He.glo_ok X G (d.fact 37 (f := .glo "is_list") rfl), let ⟨fd, D⟩ := d.def_ 1 rfl; ⟨fd, fun_of D⟩⟩
    f_is_side := ⟨He.glo_ok X G (d.fact 38 (f := .glo "is_side") rfl), let ⟨fd, D⟩ := d.def_ 2 rfl; ⟨fd, fun_of D⟩⟩
    f_is_letter := ⟨He.glo_ok X G (d.fact 39 (f := .glo "is_letter") rfl), let ⟨fd, D⟩ := d.def_ 3 rfl; ⟨fd, fun_of D⟩⟩
    f_kinds_for := ⟨He.glo_ok X G (d.fact 40 (f := .glo "kinds_for") rfl), let ⟨fd, D⟩ := d.def_ 4 rfl; ⟨fd, fun_of D⟩⟩
    f_is_rest := ⟨He.glo_ok X G (d.fact 41 (f := .glo "is_rest") rfl), let ⟨fd, D⟩ := d.def_ 5 rfl; ⟨fd, fun_of D⟩⟩
    f_is_part := ⟨He.glo_ok X G (d.fact 42 (f := .glo "is_part") rfl), let ⟨fd, D⟩ := d.def_ 6 rfl; ⟨fd, fun_of D⟩⟩
    f_is_choice := ⟨He.glo_ok X G (d.fact 43 (f := .glo "is_choice") rfl), let ⟨fd, D⟩ := d.def_ 7 rfl; ⟨fd, fun_of D⟩⟩
    f_are_choices := ⟨He.glo_ok X G (d.fact 44 (f := .glo "are_choices") rfl), let ⟨fd, D⟩ := d.def_ 8 rfl; ⟨fd, fun_of D⟩⟩
    f_first_vector := ⟨He.glo_ok X G (d.fact 45 (f := .glo "first_vector") rfl), let ⟨fd, D⟩ := d.def_ 9 rfl; ⟨fd, fun_of D⟩⟩
    f_middle := ⟨He.glo_ok X G (d.fact 46 (f := .glo "middle") rfl), let ⟨fd, D⟩ := d.def_ 10 rfl; ⟨fd, fun_of D⟩⟩
    f_guessed_vector := ⟨He.glo_ok X G (d.fact 47 (f := .glo "guessed_vector") rfl), let ⟨fd, D⟩ := d.def_ 11 rfl; ⟨fd, fun_of D⟩⟩
    f_signs_in := ⟨He.glo_ok X G (d.fact 48 (f := .glo "signs_in") rfl), let ⟨fd, D⟩ := d.def_ 12 rfl; ⟨fd, fun_of D⟩⟩
    f_lower_signs := ⟨He.glo_ok X G (d.fact 49 (f := .glo "lower_signs") rfl), let ⟨fd, D⟩ := d.def_ 13 rfl; ⟨fd, fun_of D⟩⟩
    f_letters_in := ⟨He.glo_ok X G (d.fact 50 (f := .glo "letters_in") rfl), let ⟨fd, D⟩ := d.def_ 14 rfl; ⟨fd, fun_of D⟩⟩
    f_need_sign := ⟨He.glo_ok X G (d.fact 51 (f := .glo "need_sign") rfl), let ⟨fd, D⟩ := d.def_ 15 rfl; ⟨fd, fun_of D⟩⟩
    f_is_unit := ⟨He.glo_ok X G (d.fact 52 (f := .glo "is_unit") rfl), let ⟨fd, D⟩ := d.def_ 16 rfl; ⟨fd, fun_of D⟩⟩
    f_write_rest := ⟨He.glo_ok X G (d.fact 53 (f := .glo "write_rest") rfl), let ⟨fd, D⟩ := d.def_ 17 rfl; ⟨fd, fun_of D⟩⟩
    f_write_choice := ⟨He.glo_ok X G (d.fact 54 (f := .glo "write_choice") rfl), let ⟨fd, D⟩ := d.def_ 18 rfl; ⟨fd, fun_of D⟩⟩
    f_read_rest := ⟨He.glo_ok X G (d.fact 55 (f := .glo "read_rest") rfl), let ⟨fd, D⟩ := d.def_ 19 rfl; ⟨fd, fun_of D⟩⟩
    f_read_choice := ⟨He.glo_ok X G (d.fact 56 (f := .glo "read_choice") rfl), let ⟨fd, D⟩ := d.def_ 20 rfl; ⟨fd, fun_of D⟩⟩
    f_need_size := ⟨He.glo_ok X G (d.fact 57 (f := .glo "need_size") rfl), let ⟨fd, D⟩ := d.def_ 21 rfl; ⟨fd, fun_of D⟩⟩
    f_letters_of := ⟨He.glo_ok X G (d.fact 58 (f := .glo "letters_of") rfl), let ⟨fd, D⟩ := d.def_ 22 rfl; ⟨fd, fun_of D⟩⟩
    f_read_choices := ⟨He.glo_ok X G (d.fact 59 (f := .glo "read_choices") rfl), let ⟨fd, D⟩ := d.def_ 23 rfl; ⟨fd, fun_of D⟩⟩
    f_choices_of := ⟨He.glo_ok X G (d.fact 60 (f := .glo "choices_of") rfl), let ⟨fd, D⟩ := d.def_ 24 rfl; ⟨fd, fun_of D⟩⟩
    f_come_to := ⟨He.glo_ok X G (d.fact 61 (f := .glo "come_to") rfl), let ⟨fd, D⟩ := d.def_ 25 rfl; ⟨fd, fun_of D⟩⟩
    f_needed := ⟨He.glo_ok X G (d.fact 62 (f := .glo "needed") rfl), let ⟨fd, D⟩ := d.def_ 26 rfl; ⟨fd, fun_of D⟩⟩
    f_leads_ahead := ⟨He.glo_ok X G (d.fact 63 (f := .glo "leads_ahead") rfl), let ⟨fd, D⟩ := d.def_ 27 rfl; ⟨fd, fun_of D⟩⟩
    f_entries := ⟨He.glo_ok X G (d.fact 64 (f := .glo "entries") rfl), let ⟨fd, D⟩ := d.def_ 28 rfl; ⟨fd, fun_of D⟩⟩
    f_shown_from := ⟨He.glo_ok X G (d.fact 65 (f := .glo "shown_from") rfl), let ⟨fd, D⟩ := d.def_ 29 rfl; ⟨fd, fun_of D⟩⟩
    f__law_state := ⟨He.glo_ok X G (d.fact 66 (f := .glo "_law_state") rfl), let ⟨fd, D⟩ := d.def_ 30 rfl; ⟨fd, fun_of D⟩⟩
    f__law_next := ⟨He.glo_ok X G (d.fact 67 (f := .glo "_law_next") rfl), let ⟨fd, D⟩ := d.def_ 31 rfl; ⟨fd, fun_of D⟩⟩
    f__law_order := ⟨He.glo_ok X G (d.fact 68 (f := .glo "_law_order") rfl), let ⟨fd, D⟩ := d.def_ 32 rfl; ⟨fd, fun_of D⟩⟩
    f__law_web := ⟨He.glo_ok X G (d.fact 69 (f := .glo "_law_web") rfl), let ⟨fd, D⟩ := d.def_ 33 rfl; ⟨fd, fun_of D⟩⟩
    f__law_simple := ⟨He.glo_ok X G (d.fact 70 (f := .glo "_law_simple") rfl), let ⟨fd, D⟩ := d.def_ 34 rfl; ⟨fd, fun_of D⟩⟩
    f__law_had := ⟨He.glo_ok X G (d.fact 71 (f := .glo "_law_had") rfl), let ⟨fd, D⟩ := d.def_ 35 rfl; ⟨fd, fun_of D⟩⟩
    f_law := ⟨He.glo_ok X G (d.fact 72 (f := .glo "law") rfl), let ⟨fd, D⟩ := d.def_ 36 rfl; ⟨fd, fun_of D⟩⟩
    g_Coder := He.glo_ok X G (d.fact 73 (f := .glo "Coder") rfl)
    k_Writer := He.cls_ok (d.fact 77 (f := .cls "Writer") rfl)
    g_Writer := He.glo_ok X G (d.fact 74 (f := .glo "Writer") rfl)
    n_Writer_low := He.noat_ok (d.fact 78 (f := .noat "Writer" "low") rfl)
    n_Writer_breadth := He.noat_ok (d.fact 79 (f := .noat "Writer" "breadth") rfl)
    n_Writer_room := He.noat_ok (d.fact 80 (f := .noat "Writer" "room") rfl)
    n_Writer_sent := He.noat_ok (d.fact 81 (f := .noat "Writer" "sent") rfl)
    n_Writer_learned_ones := He.noat_ok (d.fact 82 (f := .noat "Writer" "learned_ones") rfl)
    k_Reader := He.cls_ok (d.fact 83 (f := .cls "Reader") rfl)
    g_Reader := He.glo_ok X G (d.fact 75 (f := .glo "Reader") rfl)
    n_Reader_low := He.noat_ok (d.fact 84 (f := .noat "Reader" "low") rfl)
    n_Reader_breadth := He.noat_ok (d.fact 85 (f := .noat "Reader" "breadth") rfl)
    n_Reader_room := He.noat_ok (d.fact 86 (f := .noat "Reader" "room") rfl)
    n_Reader_sent := He.noat_ok (d.fact 87 (f := .noat "Reader" "sent") rfl)
    n_Reader_learned_ones := He.noat_ok (d.fact 88 (f := .noat "Reader" "learned_ones") rfl)
    n_Reader_signs := He.noat_ok (d.fact 89 (f := .noat "Reader" "signs") rfl)
    n_Reader_code := He.noat_ok (d.fact 90 (f := .noat "Reader" "code") rfl)
    k_Row := He.cls_ok (d.fact 91 (f := .cls "Row") rfl)
    g_Row := He.glo_ok X G (d.fact 76 (f := .glo "Row") rfl)
    n_Row_width := He.noat_ok (d.fact 92 (f := .noat "Row" "width") rfl)
    n_Row_height := He.noat_ok (d.fact 93 (f := .noat "Row" "height") rfl)
    n_Row_all_units := He.noat_ok (d.fact 94 (f := .noat "Row" "all_units") rfl)
    n_Row_all_choices := He.noat_ok (d.fact 95 (f := .noat "Row" "all_choices") rfl)
    n_Row_all_reads := He.noat_ok (d.fact 96 (f := .noat "Row" "all_reads") rfl)
    n_Row_places_by_tick := He.noat_ok (d.fact 97 (f := .noat "Row" "places_by_tick") rfl)
    m_Writer_chance_of := let ⟨fd, D⟩ := d.def_ 37 rfl; ⟨fd, He.meth_ok (d.fact 98 (f := .meth "Writer" "chance_of") rfl), fun_of D⟩
    m_Writer_narrowed := let ⟨fd, D⟩ := d.def_ 38 rfl; ⟨fd, He.meth_ok (d.fact 99 (f := .meth "Writer" "narrowed") rfl), fun_of D⟩
    m_Writer_learn := let ⟨fd, D⟩ := d.def_ 39 rfl; ⟨fd, He.meth_ok (d.fact 100 (f := .meth "Writer" "learn") rfl), fun_of D⟩
    m_Writer_bit := let ⟨fd, D⟩ := d.def_ 40 rfl; ⟨fd, He.meth_ok (d.fact 101 (f := .meth "Writer" "bit") rfl), fun_of D⟩
    m_Writer_even := let ⟨fd, D⟩ := d.def_ 41 rfl; ⟨fd, He.meth_ok (d.fact 102 (f := .meth "Writer" "even") rfl), fun_of D⟩
    m_Writer_number := let ⟨fd, D⟩ := d.def_ 42 rfl; ⟨fd, He.meth_ok (d.fact 103 (f := .meth "Writer" "number") rfl), fun_of D⟩
    m_Writer_letters := let ⟨fd, D⟩ := d.def_ 43 rfl; ⟨fd, He.meth_ok (d.fact 104 (f := .meth "Writer" "letters") rfl), fun_of D⟩
    m_Reader_chance_of := let ⟨fd, D⟩ := d.def_ 44 rfl; ⟨fd, He.meth_ok (d.fact 105 (f := .meth "Reader" "chance_of") rfl), fun_of D⟩
    m_Reader_narrowed := let ⟨fd, D⟩ := d.def_ 45 rfl; ⟨fd, He.meth_ok (d.fact 106 (f := .meth "Reader" "narrowed") rfl), fun_of D⟩
    m_Reader_learn := let ⟨fd, D⟩ := d.def_ 46 rfl; ⟨fd, He.meth_ok (d.fact 107 (f := .meth "Reader" "learn") rfl), fun_of D⟩
    m_Reader_sign_at := let ⟨fd, D⟩ := d.def_ 47 rfl; ⟨fd, He.meth_ok (d.fact 108 (f := .meth "Reader" "sign_at") rfl), fun_of D⟩
    m_Reader_read_by := let ⟨fd, D⟩ := d.def_ 48 rfl; ⟨fd, He.meth_ok (d.fact 109 (f := .meth "Reader" "read_by") rfl), fun_of D⟩
    m_Reader_bit := let ⟨fd, D⟩ := d.def_ 49 rfl; ⟨fd, He.meth_ok (d.fact 110 (f := .meth "Reader" "bit") rfl), fun_of D⟩
    m_Reader_even := let ⟨fd, D⟩ := d.def_ 50 rfl; ⟨fd, He.meth_ok (d.fact 111 (f := .meth "Reader" "even") rfl), fun_of D⟩
    m_Reader_number := let ⟨fd, D⟩ := d.def_ 51 rfl; ⟨fd, He.meth_ok (d.fact 112 (f := .meth "Reader" "number") rfl), fun_of D⟩
    m_Row_take := let ⟨fd, D⟩ := d.def_ 52 rfl; ⟨fd, He.meth_ok (d.fact 113 (f := .meth "Row" "take") rfl), fun_of D⟩
    m_Row_units := let ⟨fd, D⟩ := d.def_ 53 rfl; ⟨fd, He.meth_ok (d.fact 114 (f := .meth "Row" "units") rfl), fun_of D⟩
    m_Row_reads_at := let ⟨fd, D⟩ := d.def_ 54 rfl; ⟨fd, He.meth_ok (d.fact 115 (f := .meth "Row" "reads_at") rfl), fun_of D⟩
    i_Writer := ⟨He.mkr_ok (d.fact 116 (f := .mkr "Writer") rfl), let ⟨fd, D⟩ := d.def_ 55 rfl; ⟨fd, fun_of D⟩⟩
    i_Reader := ⟨He.mkr_ok (d.fact 117 (f := .mkr "Reader") rfl), let ⟨fd, D⟩ := d.def_ 56 rfl; ⟨fd, fun_of D⟩⟩
    i_Row := ⟨He.mkr_ok (d.fact 118 (f := .mkr "Row") rfl), let ⟨fd, D⟩ := d.def_ 57 rfl; ⟨fd, fun_of D⟩⟩
    i_Coder := let ⟨fd, D⟩ := d.def_ 58 rfl; ⟨D.kp, readX_ok x5, clsX_ok x4, fd, fun_of D⟩ }
end
end K36
namespace K36
open L2 PySem
open PySem.Spec PyProof.Rows
/-! ### the top's run: what is asked of its end, part by part, for each answer of the row it asks -/
def loose : List PySem.Str := R.prog.boundNames.filter fun n => !(n == "law" || n == "__name__")
abbrev vw : Program := PySem.W.view R.prog [82]
noncomputable abbrev endR (w : World) (os : OsState) := HandSHeadRun.endF (HandSHeadRun.stepQ (HandSHeadRun.denQ HandSHeadRun.tabQ) R.prog w) 6000 R.prog w os
abbrev SeenAt (w : World) : Prop := ∀ os : OsState, (endR w os).map (fun s => (HandSHeadRun.looksF R.prog (PySem.W.boot_heap w.params) s.abs, HandSHeadRun.seenQ vw loose (importedModules R.prog.main.body) (fun s => PySem.W.xlAt vw [] s && PySem.W.recOk R.toRowW.records s) s.abs)) = some (true, PySem.W.openGood vw loose)
abbrev ObAt (w : World) : Prop := ∀ os : OsState, (endR w os).map (fun s => ob s) = some (hookX.val w)
theorem seen_f (w : World) : SeenAt (w.withFollow "special-get-raises" false) := by
  intro os
  kernel_rfl
theorem seen_t (w : World) : SeenAt (w.withFollow "special-get-raises" true) := by
  intro os
  kernel_rfl
theorem ob_f (w : World) : ObAt (w.withFollow "special-get-raises" false) := by
  intro os
  kernel_rfl
theorem ob_t (w : World) : ObAt (w.withFollow "special-get-raises" true) := by
  intro os
  kernel_rfl
theorem join3 {α A B C : Type} {x : Option α} {f : α → A} {g : α → B} {k : α → C} {a : A} {b : B} {c : C} (h1 : x.map (fun s => (f s, g s)) = some (a, b)) (h2 : x.map (fun s => k s) = some c) : x.map (fun s => (f s, g s, k s)) = some (a, b, c) := by
  cases x with
  | none => cases h1
  | some s =>
    have e1 : (f s, g s) = (a, b) := Option.some.inj h1
    have e2 : k s = c := Option.some.inj h2
    obtain ⟨e3, e4⟩ := Prod.mk.inj e1
    show some (f s, g s, k s) = some (a, b, c)
    rw [e3, e4, e2]
theorem run (w : World) : HandSHeadRun.RunEq R vw hookX ob 6000 loose w :=
  PySem.W.byRow2 "special-get-raises" (P := fun w => HandSHeadRun.RunEq R vw hookX ob 6000 loose w) (fun w os => join3 (seen_f w os) (ob_f w os)) (fun w os => join3 (seen_t w os) (ob_t w os)) w
end K36
namespace K36
open L2 PySem
open PySem.Spec PyProof.Rows
theorem facts {P : Program} {w : World} {K : PySem.W.Frag} {h : Heap} {mg : Str → Option Value} {f : Addr} (X : K.In h) (G : h.Ns mainGlobals mg) (hfa : mg ("law" : Str) = some (.ref f)) (c : SaysX w K) :
    ∃ fd : FuncData, (∀ (s : Shared) (v : Value), BindsTo s fd ⟨[v], []⟩ [("_law_script", v)]) ∧ ∀ base : Heap, K.In base → base.Ns mainGlobals mg → FnOk P w K mg base CX0 11 f fd ["_law_script"] (spLaw K) := by
  have T := txt X G c
  obtain ⟨hm, fd, F⟩ := T.f_law
  have e := hfa.symm.trans hm
  cases e
  obtain ⟨oc, od, kV, doc, pm, an, cdv, ct, osl, e, lk, hcd⟩ := id F.ex
  refine ⟨fd, fun s v => ?_, fun base _ _ => ?_⟩
  · subst e
    exact BindsTo.of_looks fun M => .of_pure rfl
  · obtain ⟨hm2, fd2, G2, F2⟩ := fn_law (P := P) (base := base) T
    obtain ⟨oc2, od2, kV2, doc2, pm2, an2, cdv2, ct2, osl2, e2, lk2, _⟩ := id F2.ex
    have e3 := lk.symm.trans lk2
    have e4 : fd = fd2 := by
      injection e3 with e3
      injection e3 with _ _ e3 _
      injection e3
    rw [e4]
    exact G2
end K36
open PySem PySem.W
open PySem.Calls PyProof.Rows
theorem PySem.Challenge.cw_sameshown_k36_whole_entries_holds : PySem.Challenge.rw_sameshown_k36_whole_entries.Holds := by
  w_on; o_law
  refine HandSHeadRun.head_any (r := OpenLaw.row PySem.Challenge.rw_sameshown_k36_whole_entries) (q := K36.vw) (H := K36.hookX) (ob := K36.ob) (M := 6000) (loose := K36.loose) (d := HandSHeadRun.topDef (OpenLaw.row PySem.Challenge.rw_sameshown_k36_whole_entries).prog 82) (kwd := []) K36.ob_eq
    (by kernel_rfl) (fun s => by kernel_rfl) K36.run (by kernel_rfl) (by kernel_rfl) (by kernel_rfl) (by rfl) (by first | assumption | decide +kernel) (by decide +kernel) ⟨rfl, rfl, rfl, rfl, rfl, by decide +kernel⟩ ?hw ?hc
  case hw => w_witness2
  case hc =>
    refine L2.walk_ofE (l := PySem.Challenge.rw_sameshown_k36_whole_entries) (n := 63) (k := 11) (x := "_law_script") (CX := L2.CX0) rfl (by decide) (by kernel_rfl) ⟨rfl, by decide, by decide⟩ ?F (fun _ _ _ _ z => z)
    intro w mg fa h Y G hmg0
    obtain ⟨K, KX, c⟩ := Y
    have hmg : mg ("law" : PySem.Str) = some (.ref fa) := by
      have e : (HandSHeadRun.topDef (OpenLaw.row PySem.Challenge.rw_sameshown_k36_whole_entries).prog 82).name = ("law" : PySem.Str) := by kernel_rfl
      rw [← e]
      exact hmg0
    obtain ⟨fd, hb, hF⟩ := K36.facts (P := (PySem.Challenge.rw_sameshown_k36_whole_entries).prog) (w := w) KX G hmg c
    exact ⟨K, fd, K36.spLaw K, KX, hb, fun H a ns hl _ hS => ⟨a, ns, rfl, hS, fun _ => rfl⟩, hF⟩
