import PyProof.Rows.All
import Wide.All
import OpenK.AllK
import Wide.FinOn
import KE.KStateDown
import HandS.ForMost
import HandS.WordsExc
import HandS.Defaults
import HandS.Star
import HandS.IsInst
import HandS.Property
import HandS.HeadHook1
import HandS.HeadHook2
import PySem.Challenge.RW_namechains_k20_whole_papers_for_stretche
import HandS.Head0
import HandS.Head1
import HandS.Head2
import HandS.HeadEnd
import HandS.ClsMeth
import HandS.Nested
import HandS.MethStar
import KE.KSuper
import HandS.Codes
import HandS.TupAny
import HandS.Style
import HandS.Conv
import HandS.SetKeys
import HandS.DictComp
import HandS.Deep
import HandS.Small
import HandS.Wide
import HandS.ExcSuper
import PyProof.ZipIter
import PyProof.CollectWalk
import KE.KDictZip
import PyProof.DictMoreH
import PyProof.AutoSeq1
import HandS.DictTup
import HandS.Iter
import KE.GoesMore
import HandS.SetFor
import HandS.Set
import HandS.SetBool
import KE.Datum
import KE.DatumOrd
import KE.DatumMore
import KE.DatumMoreOrd
import KE.SortData
import HandS.Walk
import HandS.TupSets
-- NcFacts
set_option Elab.async false
set_option linter.all false
set_option maxRecDepth 100000
set_option maxHeartbeats 4000000
/-! The text by places, the facts that the head tells of it. -/
namespace NC
open PySem PySem.Spec PyProof.Rows L2
def top (i : Nat) : Stmt := PySem.Challenge.pw_namechains_k20_whole_papers_for_stretche.main.body.getD i (.Pass ⟨0, 0, 0, 0⟩)
abbrev s_persons_in : Stmt := top 8
abbrev s_table_from : Stmt := top 9
abbrev s_is_integer : Stmt := top 12
abbrev s_is_number : Stmt := top 13
abbrev s_is_word : Stmt := top 14
abbrev s_is_stretch : Stmt := top 15
abbrev s_is_chain : Stmt := top 16
abbrev s_routes : Stmt := top 19
abbrev s_all_lines : Stmt := top 20
abbrev s_used_lines : Stmt := top 21
abbrev s_renewed : Stmt := top 22
abbrev s_yes_paper : Stmt := top 23
abbrev s_rows_of : Stmt := top 24
abbrev s_is_subject : Stmt := top 38
abbrev s_namings_of : Stmt := top 43
abbrev s_named_by : Stmt := top 44
abbrev s_named_on_all : Stmt := top 45
abbrev s_named_on_some : Stmt := top 46
abbrev s_paper_for : Stmt := top 47
abbrev s_need_statements : Stmt := top 49
abbrev s_need_unlike : Stmt := top 50
abbrev s_words_of : Stmt := top 51
abbrev s_law_pen : Stmt := top 56
abbrev s_law_draw : Stmt := top 57
abbrev s_law_pick : Stmt := top 58
abbrev s_law_great : Stmt := top 59
abbrev s_law_words : Stmt := top 60
abbrev s_law_is_word : Stmt := top 61
abbrev s_law_spot : Stmt := top 62
abbrev s_law_span : Stmt := top 63
abbrev s_law_days : Stmt := top 64
abbrev s_law_chain : Stmt := top 65
abbrev s_law_naming : Stmt := top 66
abbrev s_law_subject : Stmt := top 67
abbrev s_law_leave : Stmt := top 68
abbrev s_law_made : Stmt := top 69
abbrev s_law_book : Stmt := top 70
abbrev s_law_plain_book : Stmt := top 71
abbrev s_law_town : Stmt := top 72
abbrev s_law_asked : Stmt := top 73
abbrev s_law_held : Stmt := top 74
abbrev s_law_reach : Stmt := top 75
abbrev s_law_rounds : Stmt := top 76
abbrev s_law_segments : Stmt := top 77
abbrev s_law_is_place : Stmt := top 78
abbrev s_law_led : Stmt := top 79
abbrev s_law_is_line : Stmt := top 80
abbrev s_law_rows_table : Stmt := top 81
abbrev s_law_keeps : Stmt := top 82
abbrev s_law_is_paper : Stmt := top 83
abbrev s_law_kind_for : Stmt := top 84
abbrev s_law_inner : Stmt := top 85
abbrev s_law_told_right : Stmt := top 86
abbrev s_law : Stmt := top 87
abbrev s_Statement_init : Stmt := inClass (top 39) 0
abbrev s_Naming_facts : Stmt := inClass (top 40) 4
abbrev s_Leave_facts : Stmt := inClass (top 41) 5
abbrev s_Leave_needed : Stmt := inClass (top 41) 6
abbrev s_Book_init : Stmt := inClass (top 52) 0
abbrev s_Book_with_more : Stmt := inClass (top 52) 4
abbrev s_Naming_init : Stmt := inClass (top 40) 0
abbrev s_Leave_init : Stmt := inClass (top 41) 0
abbrev s_Book_statements : Stmt := inClass (top 52) 1
def d_persons_in : He.DefD := ⟨("persons_in", none), "persons_in", "persons_in", defArgs s_persons_in, defBody s_persons_in, defScope s_persons_in, [], []⟩
def d_table_from : He.DefD := ⟨("table_from", none), "table_from", "table_from", defArgs s_table_from, defBody s_table_from, defScope s_table_from, [], []⟩
def d_is_integer : He.DefD := ⟨("is_integer", none), "is_integer", "is_integer", defArgs s_is_integer, defBody s_is_integer, defScope s_is_integer, [], []⟩
def d_is_number : He.DefD := ⟨("is_number", none), "is_number", "is_number", defArgs s_is_number, defBody s_is_number, defScope s_is_number, [], []⟩
def d_is_word : He.DefD := ⟨("is_word", none), "is_word", "is_word", defArgs s_is_word, defBody s_is_word, defScope s_is_word, [], []⟩
def d_is_stretch : He.DefD := ⟨("is_stretch", none), "is_stretch", "is_stretch", defArgs s_is_stretch, defBody s_is_stretch, defScope s_is_stretch, [], []⟩
def d_is_chain : He.DefD := ⟨("is_chain", none), "is_chain", "is_chain", defArgs s_is_chain, defBody s_is_chain, defScope s_is_chain, [], []⟩
def d_routes : He.DefD := ⟨("routes", none), "routes", "routes", defArgs s_routes, defBody s_routes, defScope s_routes, [], []⟩
def d_all_lines : He.DefD := ⟨("all_lines", none), "all_lines", "all_lines", defArgs s_all_lines, defBody s_all_lines, defScope s_all_lines, [], []⟩
def d_used_lines : He.DefD := ⟨("used_lines", none), "used_lines", "used_lines", defArgs s_used_lines, defBody s_used_lines, defScope s_used_lines, [], []⟩
def d_renewed : He.DefD := ⟨("renewed", none), "renewed", "renewed", defArgs s_renewed, defBody s_renewed, defScope s_renewed, [], []⟩
def d_yes_paper : He.DefD := ⟨("yes_paper", none), "yes_paper", "yes_paper", defArgs s_yes_paper, defBody s_yes_paper, defScope s_yes_paper, [], []⟩
def d_rows_of : He.DefD := ⟨("rows_of", none), "rows_of", "rows_of", defArgs s_rows_of, defBody s_rows_of, defScope s_rows_of, [], []⟩
def d_is_subject : He.DefD := ⟨("is_subject", none), "is_subject", "is_subject", defArgs s_is_subject, defBody s_is_subject, defScope s_is_subject, [], []⟩
def d_namings_of : He.DefD := ⟨("namings_of", none), "namings_of", "namings_of", defArgs s_namings_of, defBody s_namings_of, defScope s_namings_of, [], []⟩
def d_named_by : He.DefD := ⟨("named_by", none), "named_by", "named_by", defArgs s_named_by, defBody s_named_by, defScope s_named_by, [], []⟩
def d_named_on_all : He.DefD := ⟨("named_on_all", none), "named_on_all", "named_on_all", defArgs s_named_on_all, defBody s_named_on_all, defScope s_named_on_all, [], []⟩
def d_named_on_some : He.DefD := ⟨("named_on_some", none), "named_on_some", "named_on_some", defArgs s_named_on_some, defBody s_named_on_some, defScope s_named_on_some, [], []⟩
def d_paper_for : He.DefD := ⟨("paper_for", none), "paper_for", "paper_for", defArgs s_paper_for, defBody s_paper_for, defScope s_paper_for, [], []⟩
def d_need_statements : He.DefD := ⟨("need_statements", none), "need_statements", "need_statements", defArgs s_need_statements, defBody s_need_statements, defScope s_need_statements, [], []⟩
def d_need_unlike : He.DefD := ⟨("need_unlike", none), "need_unlike", "need_unlike", defArgs s_need_unlike, defBody s_need_unlike, defScope s_need_unlike, [], []⟩
def d_words_of : He.DefD := ⟨("words_of", none), "words_of", "words_of", defArgs s_words_of, defBody s_words_of, defScope s_words_of, [], []⟩
def d_law_pen : He.DefD := ⟨("_law_pen", none), "_law_pen", "_law_pen", defArgs s_law_pen, defBody s_law_pen, defScope s_law_pen, [], []⟩
def d_law_draw : He.DefD := ⟨("_law_draw", none), "_law_draw", "_law_draw", defArgs s_law_draw, defBody s_law_draw, defScope s_law_draw, [], []⟩
def d_law_pick : He.DefD := ⟨("_law_pick", none), "_law_pick", "_law_pick", defArgs s_law_pick, defBody s_law_pick, defScope s_law_pick, [], []⟩
def d_law_great : He.DefD := ⟨("_law_great", none), "_law_great", "_law_great", defArgs s_law_great, defBody s_law_great, defScope s_law_great, [], []⟩
def d_law_words : He.DefD := ⟨("_law_words", none), "_law_words", "_law_words", defArgs s_law_words, defBody s_law_words, defScope s_law_words, [], []⟩
def d_law_is_word : He.DefD := ⟨("_law_is_word", none), "_law_is_word", "_law_is_word", defArgs s_law_is_word, defBody s_law_is_word, defScope s_law_is_word, [], []⟩
def d_law_spot : He.DefD := ⟨("_law_spot", none), "_law_spot", "_law_spot", defArgs s_law_spot, defBody s_law_spot, defScope s_law_spot, [], []⟩
def d_law_span : He.DefD := ⟨("_law_span", none), "_law_span", "_law_span", defArgs s_law_span, defBody s_law_span, defScope s_law_span, [], []⟩
def d_law_days : He.DefD := ⟨("_law_days", none), "_law_days", "_law_days", defArgs s_law_days, defBody s_law_days, defScope s_law_days, [], []⟩
def d_law_chain : He.DefD := ⟨("_law_chain", none), "_law_chain", "_law_chain", defArgs s_law_chain, defBody s_law_chain, defScope s_law_chain, [], []⟩
def d_law_naming : He.DefD := ⟨("_law_naming", none), "_law_naming", "_law_naming", defArgs s_law_naming, defBody s_law_naming, defScope s_law_naming, [], []⟩
def d_law_subject : He.DefD := ⟨("_law_subject", none), "_law_subject", "_law_subject", defArgs s_law_subject, defBody s_law_subject, defScope s_law_subject, [], []⟩
def d_law_leave : He.DefD := ⟨("_law_leave", none), "_law_leave", "_law_leave", defArgs s_law_leave, defBody s_law_leave, defScope s_law_leave, [], []⟩
def d_law_made : He.DefD := ⟨("_law_made", none), "_law_made", "_law_made", defArgs s_law_made, defBody s_law_made, defScope s_law_made, [], []⟩
def d_law_book : He.DefD := ⟨("_law_book", none), "_law_book", "_law_book", defArgs s_law_book, defBody s_law_book, defScope s_law_book, [], []⟩
def d_law_plain_book : He.DefD := ⟨("_law_plain_book", none), "_law_plain_book", "_law_plain_book", defArgs s_law_plain_book, defBody s_law_plain_book, defScope s_law_plain_book, [], []⟩
def d_law_town : He.DefD := ⟨("_law_town", none), "_law_town", "_law_town", defArgs s_law_town, defBody s_law_town, defScope s_law_town, [], []⟩
def d_law_asked : He.DefD := ⟨("_law_asked", none), "_law_asked", "_law_asked", defArgs s_law_asked, defBody s_law_asked, defScope s_law_asked, [], []⟩
def d_law_held : He.DefD := ⟨("_law_held", none), "_law_held", "_law_held", defArgs s_law_held, defBody s_law_held, defScope s_law_held, [], []⟩
def d_law_reach : He.DefD := ⟨("_law_reach", none), "_law_reach", "_law_reach", defArgs s_law_reach, defBody s_law_reach, defScope s_law_reach, [], []⟩
def d_law_rounds : He.DefD := ⟨("_law_rounds", none), "_law_rounds", "_law_rounds", defArgs s_law_rounds, defBody s_law_rounds, defScope s_law_rounds, [], []⟩
def d_law_segments : He.DefD := ⟨("_law_segments", none), "_law_segments", "_law_segments", defArgs s_law_segments, defBody s_law_segments, defScope s_law_segments, [], []⟩
def d_law_is_place : He.DefD := ⟨("_law_is_place", none), "_law_is_place", "_law_is_place", defArgs s_law_is_place, defBody s_law_is_place, defScope s_law_is_place, [], []⟩
def d_law_led : He.DefD := ⟨("_law_led", none), "_law_led", "_law_led", defArgs s_law_led, defBody s_law_led, defScope s_law_led, [], []⟩
def d_law_is_line : He.DefD := ⟨("_law_is_line", none), "_law_is_line", "_law_is_line", defArgs s_law_is_line, defBody s_law_is_line, defScope s_law_is_line, [], []⟩
def d_law_rows_table : He.DefD := ⟨("_law_rows_table", none), "_law_rows_table", "_law_rows_table", defArgs s_law_rows_table, defBody s_law_rows_table, defScope s_law_rows_table, [], []⟩
def d_law_keeps : He.DefD := ⟨("_law_keeps", none), "_law_keeps", "_law_keeps", defArgs s_law_keeps, defBody s_law_keeps, defScope s_law_keeps, [], []⟩
def d_law_is_paper : He.DefD := ⟨("_law_is_paper", none), "_law_is_paper", "_law_is_paper", defArgs s_law_is_paper, defBody s_law_is_paper, defScope s_law_is_paper, [], []⟩
def d_law_kind_for : He.DefD := ⟨("_law_kind_for", none), "_law_kind_for", "_law_kind_for", defArgs s_law_kind_for, defBody s_law_kind_for, defScope s_law_kind_for, [], []⟩
def d_law_inner : He.DefD := ⟨("_law_inner", none), "_law_inner", "_law_inner", defArgs s_law_inner, defBody s_law_inner, defScope s_law_inner, [], []⟩
def d_law_told_right : He.DefD := ⟨("_law_told_right", none), "_law_told_right", "_law_told_right", defArgs s_law_told_right, defBody s_law_told_right, defScope s_law_told_right, [], []⟩
def d_law : He.DefD := ⟨("law", none), "law", "law", defArgs s_law, defBody s_law, defScope s_law, [], []⟩
def d_Statement_init : He.DefD := ⟨("Statement", some "__init__"), "__init__", "Statement.__init__", defArgs s_Statement_init, defBody s_Statement_init, defScope s_Statement_init, [], []⟩
def d_Naming_facts : He.DefD := ⟨("Naming", some "facts"), "facts", "Naming.facts", defArgs s_Naming_facts, defBody s_Naming_facts, defScope s_Naming_facts, [], []⟩
def d_Leave_facts : He.DefD := ⟨("Leave", some "facts"), "facts", "Leave.facts", defArgs s_Leave_facts, defBody s_Leave_facts, defScope s_Leave_facts, [], []⟩
def d_Leave_needed : He.DefD := ⟨("Leave", some "needed"), "needed", "Leave.needed", defArgs s_Leave_needed, defBody s_Leave_needed, defScope s_Leave_needed, [], []⟩
def d_Book_init : He.DefD := ⟨("Book", some "__init__"), "__init__", "Book.__init__", defArgs s_Book_init, defBody s_Book_init, defScope s_Book_init, [], []⟩
def d_Book_with_more : He.DefD := ⟨("Book", some "with_more"), "with_more", "Book.with_more", defArgs s_Book_with_more, defBody s_Book_with_more, defScope s_Book_with_more, [], []⟩
def fn0 : List He.DefD := [d_persons_in, d_table_from, d_is_integer, d_is_number, d_is_word, d_is_stretch, d_is_chain, d_routes, d_all_lines, d_used_lines, d_renewed, d_yes_paper, d_rows_of, d_is_subject, d_namings_of, d_named_by, d_named_on_all, d_named_on_some, d_paper_for, d_need_statements, d_need_unlike, d_words_of, d_law_pen, d_law_draw, d_law_pick, d_law_great, d_law_words, d_law_is_word, d_law_spot, d_law_span]
def fn1 : List He.DefD := [d_law_days, d_law_chain, d_law_naming, d_law_subject, d_law_leave, d_law_made, d_law_book, d_law_plain_book, d_law_town, d_law_asked, d_law_held, d_law_reach, d_law_rounds, d_law_segments, d_law_is_place, d_law_led, d_law_is_line, d_law_rows_table, d_law_keeps, d_law_is_paper, d_law_kind_for, d_law_inner, d_law_told_right, d_law, d_Statement_init, d_Naming_facts, d_Leave_facts, d_Leave_needed, d_Book_init, d_Book_with_more]
def fn : List He.DefD := fn0 ++ fn1
def fa0 : List He.Fa := [.glo "persons_in", .glo "table_from", .glo "is_integer", .glo "is_number", .glo "is_word", .glo "is_stretch", .glo "is_chain", .glo "routes", .glo "all_lines", .glo "used_lines", .glo "renewed", .glo "yes_paper", .glo "rows_of", .glo "is_subject", .glo "namings_of", .glo "named_by", .glo "named_on_all", .glo "named_on_some", .glo "paper_for", .glo "need_statements", .glo "need_unlike", .glo "words_of", .glo "_law_pen", .glo "_law_draw", .glo "_law_pick", .glo "_law_great", .glo "_law_words", .glo "_law_is_word", .glo "_law_spot", .glo "_law_span"]
def fa1 : List He.Fa := [.glo "_law_days", .glo "_law_chain", .glo "_law_naming", .glo "_law_subject", .glo "_law_leave", .glo "_law_made", .glo "_law_book", .glo "_law_plain_book", .glo "_law_town", .glo "_law_asked", .glo "_law_held", .glo "_law_reach", .glo "_law_rounds", .glo "_law_segments", .glo "_law_is_place", .glo "_law_led", .glo "_law_is_line", .glo "_law_rows_table", .glo "_law_keeps", .glo "_law_is_paper", .glo "_law_kind_for", .glo "_law_inner", .glo "_law_told_right", .glo "law", .free "sorted", .free "set", .free "len", .free "isinstance", .free "int", .free "str"]
def fa2 : List He.Fa := [.free "bool", .free "tuple", .free "list", .free "dict", .free "range", .free "enumerate", .free "zip", .free "min", .free "max", .free "abs", .free "all", .free "super", .int "LIMIT" 1000000000000000000000000000000, .int "MAX_LETTERS" 8, .int "MAX_NAMES" 4, .int "MAX_STATEMENTS" 24, .int "MAX_CHAINS" 4, .int "MAX_TIMES" 9, .str "LETTERS" "abcdefghijklmnopqrstuvwxyz", .glo "Naming", .glo "Leave", .glo "Book", .glo "Statement", .cls "Naming", .mkr "Naming", .noat "Naming" "own_person", .noat "Naming" "own_days", .noat "Naming" "own_name", .noat "Naming" "own_chain", .cls "Leave"]
def fa3 : List He.Fa := [.mkr "Leave", .noat "Leave" "own_person", .noat "Leave" "own_days", .noat "Leave" "own_subject", .noat "Leave" "own_tags", .noat "Leave" "own_times", .cls "Book", .mkr "Book", .noat "Book" "own_statements", .noat "Book" "own_persons", .noat "Book" "own_names", .meth "Naming" "facts", .meth "Leave" "facts", .meth "Leave" "needed", .meth "Book" "with_more"]
def fa : List He.Fa := fa0 ++ fa1 ++ fa2 ++ fa3
/-! ### facts of my own -/
/-- the property x of the class at C, its getter -/
def pAd (K : PySem.W.Frag) (C : Addr) (x : Str) : Addr := match PySem.W.findIn K (.ref C) x with
  | some (some (.ref p)) => p
  | _ => 0
def gAd (K : PySem.W.Frag) (C : Addr) (x : Str) : Addr := match PySem.W.recIn K (pAd K C x) "property" with
  | some (.ref g :: _) => g
  | _ => 0
def propB (C x : Str) (K : PySem.W.Frag) : Bool := He.eqO (PySem.W.findIn K (.ref (He.ga K C)) x) (some (some (.ref (pAd K (He.ga K C) x)))) &&
  (He.eqO (PySem.W.specialIn K (.ref (pAd K (He.ga K C) x)) "__get__") (some (some (.builtin "property.__get__"))) && (decide (PySem.W.takesIn K (.ref (pAd K (He.ga K C) x)) = some true) &&
  (match PySem.W.recIn K (pAd K (He.ga K C) x) "property" with
    | some (v :: _) => decide (v = .ref (gAd K (He.ga K C) x))
    | _ => false)))
theorem propB_ok {C x : Str} {K : PySem.W.Frag} (h : propB C x K = true) : PropOf K (He.ga K C) x (pAd K (He.ga K C) x) (gAd K (He.ga K C) x) := by
  obtain ⟨h1, h⟩ := He.ba h
  obtain ⟨h2, h⟩ := He.ba h
  obtain ⟨h3, h4⟩ := He.ba h
  refine ⟨He.eqO_ok h1, He.eqO_ok h2, of_decide_eq_true h3, ?_⟩
  cases e : PySem.W.recIn K (pAd K (He.ga K C) x) "property" with
  | none => rw [e] at h4; cases h4
  | some l =>
    rw [e] at h4
    cases l with
    | nil => cases h4
    | cons v r => exact ⟨r, by rw [of_decide_eq_true h4]⟩
/-- what is to be known of a function besides its code: its parts, the names that it closes over -/
abbrev FnX : Type := Option (Str × Str × Arguments × FuncBody × Scope × Addr × List Str × Addr)
def fnX (K : PySem.W.Frag) (a : Addr) : FnX := match K.lookup a with
  | some ⟨_, _, .func fd, _⟩ => some (fd.name, fd.qualname, fd.params, fd.body, fd.scope, fd.globals, fd.closure.map (·.1), fd.builtins)
  | _ => none
structure DefX where
  ad : PySem.W.Frag → Addr
  name : Str
  qual : Str
  params : Arguments
  body : List Stmt
  scope : Scope
  clo : List Str
def DefX.val (d : DefX) : FnX := some (d.name, d.qual, d.params, .stmts d.body, d.scope, mainGlobals, d.clo, builtinsNs)
def DefX.ok (K : PySem.W.Frag) (d : DefX) : Bool := PySem.W.keepIn K (.ref (d.ad K)) && (match K.lookup (d.ad K) with
  | some ⟨_, _, .func fd, _⟩ => PySem.W.codeIn K fd.code d.qual
  | _ => false)
/-- a function with a closure, as the model holds it -/
def fnC (name qual : Str) (params : Arguments) (body : List Stmt) (scope : Scope) (dV kV doc pm : Value) (an : Option Addr) (cdv ct : Value) (clo : List (Str × Addr)) : FuncData :=
  { PySem.W.fnOf name qual params body scope dV kV doc pm an cdv ct with closure := clo }
structure FunX (K : PySem.W.Frag) (d : DefX) (fd : FuncData) : Prop where
  ex : ∃ (oc : Value) (od : Option Addr) (dV kV doc pm : Value) (an : Option Addr) (cdv ct : Value) (osl : Array (Option Value)) (clo : List (Str × Addr)),
    fd = fnC d.name d.qual d.params d.body d.scope dV kV doc pm an cdv ct clo ∧ clo.map (·.1) = d.clo ∧ K.lookup (d.ad K) = some ⟨oc, od, .func fd, osl⟩ ∧ PySem.W.codeIn K cdv d.qual = true
  kp : PySem.W.keepIn K (.ref (d.ad K)) = true
theorem DefX.funX {K : PySem.W.Frag} {d : DefX} (e : fnX K (d.ad K) = d.val) (c : d.ok K = true) : ∃ fd, FunX K d fd := by
  obtain ⟨kp, c2⟩ := He.ba c
  unfold fnX at e
  cases q : K.lookup (d.ad K) with
  | none => rw [q] at c2; cases c2
  | some o =>
    obtain ⟨oc, od, dt, osl⟩ := o
    rw [q] at c2 e
    cases dt with
    | func fd =>
      obtain ⟨n1, n2, n3, n4, n5, n6, n7, n8, n9, n10, n11, n12, n13, n14, n15⟩ := fd
      have e2 : (some (n1, n2, n3, n4, n5, n6, n7.map (·.1), n15) : FnX) = some (d.name, d.qual, d.params, .stmts d.body, d.scope, mainGlobals, d.clo, builtinsNs) := e
      simp only [Option.some.injEq, Prod.mk.injEq] at e2
      obtain ⟨h1, h2, h3, h4, h5, h6, h7, h8⟩ := e2
      subst h1 h2 h3 h4 h5 h6 h8
      exact ⟨_, ⟨oc, od, n8, n9, n10, n11, n12, n13, n14, osl, n7, rfl, h7, q, c2⟩, kp⟩
    | _ => cases c2

def x_Naming_init : DefX := ⟨fun K => He.ma K (He.ga K "Naming") "__init__", "__init__", "Naming.__init__", defArgs s_Naming_init, defBody s_Naming_init, defScope s_Naming_init, ["__class__"]⟩
def x_Leave_init : DefX := ⟨fun K => He.ma K (He.ga K "Leave") "__init__", "__init__", "Leave.__init__", defArgs s_Leave_init, defBody s_Leave_init, defScope s_Leave_init, ["__class__"]⟩
def x_Book_statements : DefX := ⟨fun K => gAd K (He.ga K "Book") "statements", "statements", "Book.statements", defArgs s_Book_statements, defBody s_Book_statements, defScope s_Book_statements, []⟩
def fx : List DefX := [x_Naming_init, x_Leave_init, x_Book_statements]
/-- the class's own cell of the method m -/
def cellB (C m : Str) (K : PySem.W.Frag) : Bool := match K.lookup (He.ma K (He.ga K C) m) with
  | some ⟨_, _, .func fd, _⟩ => (match fd.closure with
    | [(_, c)] => (match K.lookup c with
      | some ⟨_, _, .cell (some v), _⟩ => decide (v = .ref (He.ga K C))
      | _ => false)
    | _ => false)
  | _ => false
/-- an instance of C: what isinstance asks of its class -/
def insB (C : Str) (K : PySem.W.Frag) : Bool := He.eqO (PySem.W.findIn K (.ref (He.ga K C)) "__class__") (some (some (.builtin "object.__class__"))) && (He.eqO (PySem.W.specialIn K (.builtin "object.__class__") "__get__") (some (some (.builtin "getset_descriptor.__get__"))) &&
  (decide (PySem.W.takesIn K (.builtin "object.__class__") = some true) && decide (PySem.W.mroIn K (He.ga K C) (.type "object") = some true)))
def isB (C D : Str) (b : Bool) (K : PySem.W.Frag) : Bool := decide (PySem.W.kitOne K (.ref (He.ga K C)) (.ref (He.ga K D)) = some b)
def mroB (C D : Str) (K : PySem.W.Frag) : Bool := match PySem.W.clsIn K (He.ga K C) with
  | some cd => decide (cd.mro = [.ref (He.ga K C), .ref (He.ga K D), .type "object"])
  | none => false
def alongB (D m : Str) (K : PySem.W.Frag) : Bool := He.eqO (PySem.W.alongIn K m [.ref (He.ga K D), .type "object"]) (some (some (.ref (He.ma K (He.ga K D) m)))) && decide (PySem.W.typeIn K (.ref (He.ma K (He.ga K D) m)) = some (.type "function"))
/-- the code object of the method m tells the program's own file -/
def fileB (C m : Str) (K : PySem.W.Frag) : Bool := match K.lookup (He.ma K (He.ga K C) m) with
  | some ⟨_, _, .func fd, _⟩ => (match fd.code with
    | .ref c => (match K.lookup c with
      | some ⟨_, _, .fields vs, _⟩ => (match (vs[2]? : Option Value) with
        | some (.str z _) => decide (z = PySem.Challenge.pw_namechains_k20_whole_papers_for_stretche.main.file)
        | _ => false)
      | _ => false)
    | _ => false)
  | _ => false
/-- the defaults of the method m -/
def dfB (C m : Str) (dvs : List V) (K : PySem.W.Frag) : Bool := match K.lookup (He.ma K (He.ga K C) m) with
  | some ⟨_, _, .func fd, _⟩ => He.dflB K fd.defaults dvs
  | _ => false
def dfgB (C x : Str) (dvs : List V) (K : PySem.W.Frag) : Bool := match K.lookup (gAd K (He.ga K C) x) with
  | some ⟨_, _, .func fd, _⟩ => He.dflB K fd.defaults dvs
  | _ => false
def xf : List (PySem.W.Frag → Bool) := [propB "Book" "statements", fun K => He.tupB K "ALL_DAYS" [.int 0, .int 1000000000000000000000000000000], fun K => He.eqO (PySem.W.nsIn K mainGlobals "ALL_DAYS") (some (some (.ref (He.ga K "ALL_DAYS")))), cellB "Naming" "__init__", cellB "Leave" "__init__",
  insB "Naming", insB "Leave", isB "Naming" "Naming" true, isB "Naming" "Leave" false, isB "Leave" "Naming" false, isB "Leave" "Leave" true, mroB "Naming" "Statement", mroB "Leave" "Statement", alongB "Statement" "__init__", fun K => He.eqO (PySem.W.nsIn K cStatics "thirdparty.any") (some none), fileB "Naming" "__init__", fileB "Leave" "__init__", dfB "Naming" "__init__" [.non], dfB "Leave" "__init__" [.non, .non], dfgB "Book" "statements" []]
abbrev AlX : Type := He.AlD × (Bool × List FnX)
def obsX (K : PySem.W.Frag) : AlX := (He.obsD fa fn K, ((xf.all fun f => f K) && fx.all fun d => d.ok K, fx.map fun d => fnX K (d.ad K)))
def valX : AlX := (He.valD fn, (true, fx.map DefX.val))
def obsXG (g : Addr → Option Obj) : AlX := obsX (He.frG g (List.range 963))
def hookX : PySem.W.Hook where
  α := AlX
  obs := fun s => obsXG s.heap.get?
  val := fun _ => valX
  says := fun _ h => ∃ K : PySem.W.Frag, K.In h ∧ obsX K = valX
  of := fun _ _ e => ⟨_, He.frG_in, e⟩
  keeps := fun _ _ _ ⟨K, hK, c⟩ k => ⟨K, PySem.W.Frag.In.keeps hK k, c⟩
theorem obsXG_eq {g : Addr → Option Obj} {s : Shared} (h : ∀ a, g a = s.heap.get? a) : obsXG g = hookX.obs s := by
  have e : g = s.heap.get? := funext h
  rw [e] <;> rfl
/-- all that is known of the text as it stands behind the top -/
structure Txt (K : PySem.W.Frag) (mg : Str → Option Value) : Prop where
  ex : ∃ h : Heap, K.In h ∧ h.Ns mainGlobals mg
  ob : obsX K = valX
section
variable {K : PySem.W.Frag} {mg : Str → Option Value}
theorem Txt.says (T : Txt K mg) : He.SaysD fa fn K := congrArg (fun z : AlX => z.1) T.ob
theorem Txt.xf (T : Txt K mg) (i : Nat) {f : PySem.W.Frag → Bool} (h : xf[i]? = some f := by rfl) : f K = true := by
  have c := congrArg (fun z : AlX => z.2.1) T.ob
  have c1 := (He.ba (show ((NC.xf.all fun f => f K) && fx.all fun d => d.ok K) = true from c)).1
  exact List.all_eq_true.mp c1 f (List.mem_of_getElem? h)
theorem Txt.fx (T : Txt K mg) (i : Nat) {d : DefX} (h : fx[i]? = some d := by rfl) : ∃ fd, FunX K d fd := by
  have c2 := (He.ba (show ((NC.xf.all fun f => f K) && NC.fx.all fun d => d.ok K) = true from congrArg (fun z : AlX => z.2.1) T.ob)).2
  have e : NC.fx.map (fun d => fnX K (d.ad K)) = NC.fx.map DefX.val := congrArg (fun z : AlX => z.2.2) T.ob
  have e2 : (NC.fx.map fun d => fnX K (d.ad K))[i]? = (NC.fx.map DefX.val)[i]? := by rw [e]
  rw [List.getElem?_map, List.getElem?_map, h] at e2
  exact DefX.funX (Option.some.inj e2) (List.all_eq_true.mp c2 d (List.mem_of_getElem? h))
theorem Txt.g_persons_in (T : Txt K mg) : mg "persons_in" = some (.ref (He.ga K "persons_in")) := by
  obtain ⟨h, X, G⟩ := T.ex
  exact He.glo_ok X G (T.says.fact 0 (f := .glo "persons_in") rfl)
theorem Txt.g_table_from (T : Txt K mg) : mg "table_from" = some (.ref (He.ga K "table_from")) := by
  obtain ⟨h, X, G⟩ := T.ex
  exact He.glo_ok X G (T.says.fact 1 (f := .glo "table_from") rfl)
theorem Txt.g_is_integer (T : Txt K mg) : mg "is_integer" = some (.ref (He.ga K "is_integer")) := by
  obtain ⟨h, X, G⟩ := T.ex
  exact He.glo_ok X G (T.says.fact 2 (f := .glo "is_integer") rfl)
theorem Txt.g_is_number (T : Txt K mg) : mg "is_number" = some (.ref (He.ga K "is_number")) := by
  obtain ⟨h, X, G⟩ := T.ex
  exact He.glo_ok X G (T.says.fact 3 (f := .glo "is_number") rfl)
theorem Txt.g_is_word (T : Txt K mg) : mg "is_word" = some (.ref (He.ga K "is_word")) := by
  obtain ⟨h, X, G⟩ := T.ex
  exact He.glo_ok X G (T.says.fact 4 (f := .glo "is_word") rfl)
theorem Txt.g_is_stretch (T : Txt K mg) : mg "is_stretch" = some (.ref (He.ga K "is_stretch")) := by
  obtain ⟨h, X, G⟩ := T.ex
  exact He.glo_ok X G (T.says.fact 5 (f := .glo "is_stretch") rfl)
theorem Txt.g_is_chain (T : Txt K mg) : mg "is_chain" = some (.ref (He.ga K "is_chain")) := by
  obtain ⟨h, X, G⟩ := T.ex
  exact He.glo_ok X G (T.says.fact 6 (f := .glo "is_chain") rfl)
theorem Txt.g_routes (T : Txt K mg) : mg "routes" = some (.ref (He.ga K "routes")) := by
  obtain ⟨h, X, G⟩ := T.ex
  exact He.glo_ok X G (T.says.fact 7 (f := .glo "routes") rfl)
theorem Txt.g_all_lines (T : Txt K mg) : mg "all_lines" = some (.ref (He.ga K "all_lines")) := by
  obtain ⟨h, X, G⟩ := T.ex
  exact He.glo_ok X G (T.says.fact 8 (f := .glo "all_lines") rfl)
theorem Txt.g_used_lines (T : Txt K mg) : mg "used_lines" = some (.ref (He.ga K "used_lines")) := by
  obtain ⟨h, X, G⟩ := T.ex
  exact He.glo_ok X G (T.says.fact 9 (f := .glo "used_lines") rfl)
theorem Txt.g_renewed (T : Txt K mg) : mg "renewed" = some (.ref (He.ga K "renewed")) := by
  obtain ⟨h, X, G⟩ := T.ex
  exact He.glo_ok X G (T.says.fact 10 (f := .glo "renewed") rfl)
theorem Txt.g_yes_paper (T : Txt K mg) : mg "yes_paper" = some (.ref (He.ga K "yes_paper")) := by
  obtain ⟨h, X, G⟩ := T.ex
  exact He.glo_ok X G (T.says.fact 11 (f := .glo "yes_paper") rfl)
theorem Txt.g_rows_of (T : Txt K mg) : mg "rows_of" = some (.ref (He.ga K "rows_of")) := by
  obtain ⟨h, X, G⟩ := T.ex
  exact He.glo_ok X G (T.says.fact 12 (f := .glo "rows_of") rfl)
theorem Txt.g_is_subject (T : Txt K mg) : mg "is_subject" = some (.ref (He.ga K "is_subject")) := by
  obtain ⟨h, X, G⟩ := T.ex
  exact He.glo_ok X G (T.says.fact 13 (f := .glo "is_subject") rfl)
theorem Txt.g_namings_of (T : Txt K mg) : mg "namings_of" = some (.ref (He.ga K "namings_of")) := by
  obtain ⟨h, X, G⟩ := T.ex
  exact He.glo_ok X G (T.says.fact 14 (f := .glo "namings_of") rfl)
theorem Txt.g_named_by (T : Txt K mg) : mg "named_by" = some (.ref (He.ga K "named_by")) := by
  obtain ⟨h, X, G⟩ := T.ex
  exact He.glo_ok X G (T.says.fact 15 (f := .glo "named_by") rfl)
theorem Txt.g_named_on_all (T : Txt K mg) : mg "named_on_all" = some (.ref (He.ga K "named_on_all")) := by
  obtain ⟨h, X, G⟩ := T.ex
  exact He.glo_ok X G (T.says.fact 16 (f := .glo "named_on_all") rfl)
theorem Txt.g_named_on_some (T : Txt K mg) : mg "named_on_some" = some (.ref (He.ga K "named_on_some")) := by
  obtain ⟨h, X, G⟩ := T.ex
  exact He.glo_ok X G (T.says.fact 17 (f := .glo "named_on_some") rfl)
theorem Txt.g_paper_for (T : Txt K mg) : mg "paper_for" = some (.ref (He.ga K "paper_for")) := by
  obtain ⟨h, X, G⟩ := T.ex
  exact He.glo_ok X G (T.says.fact 18 (f := .glo "paper_for") rfl)
theorem Txt.g_need_statements (T : Txt K mg) : mg "need_statements" = some (.ref (He.ga K "need_statements")) := by
  obtain ⟨h, X, G⟩ := T.ex
  exact He.glo_ok X G (T.says.fact 19 (f := .glo "need_statements") rfl)
theorem Txt.g_need_unlike (T : Txt K mg) : mg "need_unlike" = some (.ref (He.ga K "need_unlike")) := by
  obtain ⟨h, X, G⟩ := T.ex
  exact He.glo_ok X G (T.says.fact 20 (f := .glo "need_unlike") rfl)
theorem Txt.g_words_of (T : Txt K mg) : mg "words_of" = some (.ref (He.ga K "words_of")) := by
  obtain ⟨h, X, G⟩ := T.ex
  exact He.glo_ok X G (T.says.fact 21 (f := .glo "words_of") rfl)
theorem Txt.g_law_pen (T : Txt K mg) : mg "_law_pen" = some (.ref (He.ga K "_law_pen")) := by
  obtain ⟨h, X, G⟩ := T.ex
  exact He.glo_ok X G (T.says.fact 22 (f := .glo "_law_pen") rfl)
theorem Txt.g_law_draw (T : Txt K mg) : mg "_law_draw" = some (.ref (He.ga K "_law_draw")) := by
  obtain ⟨h, X, G⟩ := T.ex
  exact He.glo_ok X G (T.says.fact 23 (f := .glo "_law_draw") rfl)
theorem Txt.g_law_pick (T : Txt K mg) : mg "_law_pick" = some (.ref (He.ga K "_law_pick")) := by
  obtain ⟨h, X, G⟩ := T.ex
  exact He.glo_ok X G (T.says.fact 24 (f := .glo "_law_pick") rfl)
theorem Txt.g_law_great (T : Txt K mg) : mg "_law_great" = some (.ref (He.ga K "_law_great")) := by
  obtain ⟨h, X, G⟩ := T.ex
  exact He.glo_ok X G (T.says.fact 25 (f := .glo "_law_great") rfl)
theorem Txt.g_law_words (T : Txt K mg) : mg "_law_words" = some (.ref (He.ga K "_law_words")) := by
  obtain ⟨h, X, G⟩ := T.ex
  exact He.glo_ok X G (T.says.fact 26 (f := .glo "_law_words") rfl)
theorem Txt.g_law_is_word (T : Txt K mg) : mg "_law_is_word" = some (.ref (He.ga K "_law_is_word")) := by
  obtain ⟨h, X, G⟩ := T.ex
  exact He.glo_ok X G (T.says.fact 27 (f := .glo "_law_is_word") rfl)
theorem Txt.g_law_spot (T : Txt K mg) : mg "_law_spot" = some (.ref (He.ga K "_law_spot")) := by
  obtain ⟨h, X, G⟩ := T.ex
  exact He.glo_ok X G (T.says.fact 28 (f := .glo "_law_spot") rfl)
theorem Txt.g_law_span (T : Txt K mg) : mg "_law_span" = some (.ref (He.ga K "_law_span")) := by
  obtain ⟨h, X, G⟩ := T.ex
  exact He.glo_ok X G (T.says.fact 29 (f := .glo "_law_span") rfl)
theorem Txt.g_law_days (T : Txt K mg) : mg "_law_days" = some (.ref (He.ga K "_law_days")) := by
  obtain ⟨h, X, G⟩ := T.ex
  exact He.glo_ok X G (T.says.fact 30 (f := .glo "_law_days") rfl)
theorem Txt.g_law_chain (T : Txt K mg) : mg "_law_chain" = some (.ref (He.ga K "_law_chain")) := by
  obtain ⟨h, X, G⟩ := T.ex
  exact He.glo_ok X G (T.says.fact 31 (f := .glo "_law_chain") rfl)
theorem Txt.g_law_naming (T : Txt K mg) : mg "_law_naming" = some (.ref (He.ga K "_law_naming")) := by
  obtain ⟨h, X, G⟩ := T.ex
  exact He.glo_ok X G (T.says.fact 32 (f := .glo "_law_naming") rfl)
theorem Txt.g_law_subject (T : Txt K mg) : mg "_law_subject" = some (.ref (He.ga K "_law_subject")) := by
  obtain ⟨h, X, G⟩ := T.ex
  exact He.glo_ok X G (T.says.fact 33 (f := .glo "_law_subject") rfl)
theorem Txt.g_law_leave (T : Txt K mg) : mg "_law_leave" = some (.ref (He.ga K "_law_leave")) := by
  obtain ⟨h, X, G⟩ := T.ex
  exact He.glo_ok X G (T.says.fact 34 (f := .glo "_law_leave") rfl)
theorem Txt.g_law_made (T : Txt K mg) : mg "_law_made" = some (.ref (He.ga K "_law_made")) := by
  obtain ⟨h, X, G⟩ := T.ex
  exact He.glo_ok X G (T.says.fact 35 (f := .glo "_law_made") rfl)
theorem Txt.g_law_book (T : Txt K mg) : mg "_law_book" = some (.ref (He.ga K "_law_book")) := by
  obtain ⟨h, X, G⟩ := T.ex
  exact He.glo_ok X G (T.says.fact 36 (f := .glo "_law_book") rfl)
theorem Txt.g_law_plain_book (T : Txt K mg) : mg "_law_plain_book" = some (.ref (He.ga K "_law_plain_book")) := by
  obtain ⟨h, X, G⟩ := T.ex
  exact He.glo_ok X G (T.says.fact 37 (f := .glo "_law_plain_book") rfl)
theorem Txt.g_law_town (T : Txt K mg) : mg "_law_town" = some (.ref (He.ga K "_law_town")) := by
  obtain ⟨h, X, G⟩ := T.ex
  exact He.glo_ok X G (T.says.fact 38 (f := .glo "_law_town") rfl)
theorem Txt.g_law_asked (T : Txt K mg) : mg "_law_asked" = some (.ref (He.ga K "_law_asked")) := by
  obtain ⟨h, X, G⟩ := T.ex
  exact He.glo_ok X G (T.says.fact 39 (f := .glo "_law_asked") rfl)
theorem Txt.g_law_held (T : Txt K mg) : mg "_law_held" = some (.ref (He.ga K "_law_held")) := by
  obtain ⟨h, X, G⟩ := T.ex
  exact He.glo_ok X G (T.says.fact 40 (f := .glo "_law_held") rfl)
theorem Txt.g_law_reach (T : Txt K mg) : mg "_law_reach" = some (.ref (He.ga K "_law_reach")) := by
  obtain ⟨h, X, G⟩ := T.ex
  exact He.glo_ok X G (T.says.fact 41 (f := .glo "_law_reach") rfl)
theorem Txt.g_law_rounds (T : Txt K mg) : mg "_law_rounds" = some (.ref (He.ga K "_law_rounds")) := by
  obtain ⟨h, X, G⟩ := T.ex
  exact He.glo_ok X G (T.says.fact 42 (f := .glo "_law_rounds") rfl)
theorem Txt.g_law_segments (T : Txt K mg) : mg "_law_segments" = some (.ref (He.ga K "_law_segments")) := by
  obtain ⟨h, X, G⟩ := T.ex
  exact He.glo_ok X G (T.says.fact 43 (f := .glo "_law_segments") rfl)
theorem Txt.g_law_is_place (T : Txt K mg) : mg "_law_is_place" = some (.ref (He.ga K "_law_is_place")) := by
  obtain ⟨h, X, G⟩ := T.ex
  exact He.glo_ok X G (T.says.fact 44 (f := .glo "_law_is_place") rfl)
theorem Txt.g_law_led (T : Txt K mg) : mg "_law_led" = some (.ref (He.ga K "_law_led")) := by
  obtain ⟨h, X, G⟩ := T.ex
  exact He.glo_ok X G (T.says.fact 45 (f := .glo "_law_led") rfl)
theorem Txt.g_law_is_line (T : Txt K mg) : mg "_law_is_line" = some (.ref (He.ga K "_law_is_line")) := by
  obtain ⟨h, X, G⟩ := T.ex
  exact He.glo_ok X G (T.says.fact 46 (f := .glo "_law_is_line") rfl)
theorem Txt.g_law_rows_table (T : Txt K mg) : mg "_law_rows_table" = some (.ref (He.ga K "_law_rows_table")) := by
  obtain ⟨h, X, G⟩ := T.ex
  exact He.glo_ok X G (T.says.fact 47 (f := .glo "_law_rows_table") rfl)
theorem Txt.g_law_keeps (T : Txt K mg) : mg "_law_keeps" = some (.ref (He.ga K "_law_keeps")) := by
  obtain ⟨h, X, G⟩ := T.ex
  exact He.glo_ok X G (T.says.fact 48 (f := .glo "_law_keeps") rfl)
theorem Txt.g_law_is_paper (T : Txt K mg) : mg "_law_is_paper" = some (.ref (He.ga K "_law_is_paper")) := by
  obtain ⟨h, X, G⟩ := T.ex
  exact He.glo_ok X G (T.says.fact 49 (f := .glo "_law_is_paper") rfl)
theorem Txt.g_law_kind_for (T : Txt K mg) : mg "_law_kind_for" = some (.ref (He.ga K "_law_kind_for")) := by
  obtain ⟨h, X, G⟩ := T.ex
  exact He.glo_ok X G (T.says.fact 50 (f := .glo "_law_kind_for") rfl)
theorem Txt.g_law_inner (T : Txt K mg) : mg "_law_inner" = some (.ref (He.ga K "_law_inner")) := by
  obtain ⟨h, X, G⟩ := T.ex
  exact He.glo_ok X G (T.says.fact 51 (f := .glo "_law_inner") rfl)
theorem Txt.g_law_told_right (T : Txt K mg) : mg "_law_told_right" = some (.ref (He.ga K "_law_told_right")) := by
  obtain ⟨h, X, G⟩ := T.ex
  exact He.glo_ok X G (T.says.fact 52 (f := .glo "_law_told_right") rfl)
theorem Txt.g_law (T : Txt K mg) : mg "law" = some (.ref (He.ga K "law")) := by
  obtain ⟨h, X, G⟩ := T.ex
  exact He.glo_ok X G (T.says.fact 53 (f := .glo "law") rfl)
theorem Txt.n_sorted (T : Txt K mg) : mg "sorted" = none := by
  obtain ⟨h, X, G⟩ := T.ex
  exact He.free_ok X G (T.says.fact 54 (f := .free "sorted") rfl)
theorem Txt.n_set (T : Txt K mg) : mg "set" = none := by
  obtain ⟨h, X, G⟩ := T.ex
  exact He.free_ok X G (T.says.fact 55 (f := .free "set") rfl)
theorem Txt.n_len (T : Txt K mg) : mg "len" = none := by
  obtain ⟨h, X, G⟩ := T.ex
  exact He.free_ok X G (T.says.fact 56 (f := .free "len") rfl)
theorem Txt.n_isinstance (T : Txt K mg) : mg "isinstance" = none := by
  obtain ⟨h, X, G⟩ := T.ex
  exact He.free_ok X G (T.says.fact 57 (f := .free "isinstance") rfl)
theorem Txt.n_int (T : Txt K mg) : mg "int" = none := by
  obtain ⟨h, X, G⟩ := T.ex
  exact He.free_ok X G (T.says.fact 58 (f := .free "int") rfl)
theorem Txt.n_str (T : Txt K mg) : mg "str" = none := by
  obtain ⟨h, X, G⟩ := T.ex
  exact He.free_ok X G (T.says.fact 59 (f := .free "str") rfl)
theorem Txt.n_bool (T : Txt K mg) : mg "bool" = none := by
  obtain ⟨h, X, G⟩ := T.ex
  exact He.free_ok X G (T.says.fact 60 (f := .free "bool") rfl)
theorem Txt.n_tuple (T : Txt K mg) : mg "tuple" = none := by
  obtain ⟨h, X, G⟩ := T.ex
  exact He.free_ok X G (T.says.fact 61 (f := .free "tuple") rfl)
theorem Txt.n_list (T : Txt K mg) : mg "list" = none := by
  obtain ⟨h, X, G⟩ := T.ex
  exact He.free_ok X G (T.says.fact 62 (f := .free "list") rfl)
theorem Txt.n_dict (T : Txt K mg) : mg "dict" = none := by
  obtain ⟨h, X, G⟩ := T.ex
  exact He.free_ok X G (T.says.fact 63 (f := .free "dict") rfl)
theorem Txt.n_range (T : Txt K mg) : mg "range" = none := by
  obtain ⟨h, X, G⟩ := T.ex
  exact He.free_ok X G (T.says.fact 64 (f := .free "range") rfl)
theorem Txt.n_enumerate (T : Txt K mg) : mg "enumerate" = none := by
  obtain ⟨h, X, G⟩ := T.ex
  exact He.free_ok X G (T.says.fact 65 (f := .free "enumerate") rfl)
theorem Txt.n_zip (T : Txt K mg) : mg "zip" = none := by
  obtain ⟨h, X, G⟩ := T.ex
  exact He.free_ok X G (T.says.fact 66 (f := .free "zip") rfl)
theorem Txt.n_min (T : Txt K mg) : mg "min" = none := by
  obtain ⟨h, X, G⟩ := T.ex
  exact He.free_ok X G (T.says.fact 67 (f := .free "min") rfl)
theorem Txt.n_max (T : Txt K mg) : mg "max" = none := by
  obtain ⟨h, X, G⟩ := T.ex
  exact He.free_ok X G (T.says.fact 68 (f := .free "max") rfl)
theorem Txt.n_abs (T : Txt K mg) : mg "abs" = none := by
  obtain ⟨h, X, G⟩ := T.ex
  exact He.free_ok X G (T.says.fact 69 (f := .free "abs") rfl)
theorem Txt.n_all (T : Txt K mg) : mg "all" = none := by
  obtain ⟨h, X, G⟩ := T.ex
  exact He.free_ok X G (T.says.fact 70 (f := .free "all") rfl)
theorem Txt.n_super (T : Txt K mg) : mg "super" = none := by
  obtain ⟨h, X, G⟩ := T.ex
  exact He.free_ok X G (T.says.fact 71 (f := .free "super") rfl)
theorem Txt.i_LIMIT (T : Txt K mg) : ∃ t, mg "LIMIT" = some (.int 1000000000000000000000000000000 t) := by
  obtain ⟨h, X, G⟩ := T.ex
  exact He.int_ok X G (T.says.fact 72 (f := .int "LIMIT" 1000000000000000000000000000000) rfl)
theorem Txt.i_MAX_LETTERS (T : Txt K mg) : ∃ t, mg "MAX_LETTERS" = some (.int 8 t) := by
  obtain ⟨h, X, G⟩ := T.ex
  exact He.int_ok X G (T.says.fact 73 (f := .int "MAX_LETTERS" 8) rfl)
theorem Txt.i_MAX_NAMES (T : Txt K mg) : ∃ t, mg "MAX_NAMES" = some (.int 4 t) := by
  obtain ⟨h, X, G⟩ := T.ex
  exact He.int_ok X G (T.says.fact 74 (f := .int "MAX_NAMES" 4) rfl)
theorem Txt.i_MAX_STATEMENTS (T : Txt K mg) : ∃ t, mg "MAX_STATEMENTS" = some (.int 24 t) := by
  obtain ⟨h, X, G⟩ := T.ex
  exact He.int_ok X G (T.says.fact 75 (f := .int "MAX_STATEMENTS" 24) rfl)
theorem Txt.i_MAX_CHAINS (T : Txt K mg) : ∃ t, mg "MAX_CHAINS" = some (.int 4 t) := by
  obtain ⟨h, X, G⟩ := T.ex
  exact He.int_ok X G (T.says.fact 76 (f := .int "MAX_CHAINS" 4) rfl)
theorem Txt.i_MAX_TIMES (T : Txt K mg) : ∃ t, mg "MAX_TIMES" = some (.int 9 t) := by
  obtain ⟨h, X, G⟩ := T.ex
  exact He.int_ok X G (T.says.fact 77 (f := .int "MAX_TIMES" 9) rfl)
theorem Txt.z_LETTERS (T : Txt K mg) : ∃ t, mg "LETTERS" = some (.str "abcdefghijklmnopqrstuvwxyz" t) := by
  obtain ⟨h, X, G⟩ := T.ex
  exact He.str_ok X G (T.says.fact 78 (f := .str "LETTERS" "abcdefghijklmnopqrstuvwxyz") rfl)
theorem Txt.g_Naming (T : Txt K mg) : mg "Naming" = some (.ref (He.ga K "Naming")) := by
  obtain ⟨h, X, G⟩ := T.ex
  exact He.glo_ok X G (T.says.fact 79 (f := .glo "Naming") rfl)
theorem Txt.g_Leave (T : Txt K mg) : mg "Leave" = some (.ref (He.ga K "Leave")) := by
  obtain ⟨h, X, G⟩ := T.ex
  exact He.glo_ok X G (T.says.fact 80 (f := .glo "Leave") rfl)
theorem Txt.g_Book (T : Txt K mg) : mg "Book" = some (.ref (He.ga K "Book")) := by
  obtain ⟨h, X, G⟩ := T.ex
  exact He.glo_ok X G (T.says.fact 81 (f := .glo "Book") rfl)
theorem Txt.g_Statement (T : Txt K mg) : mg "Statement" = some (.ref (He.ga K "Statement")) := by
  obtain ⟨h, X, G⟩ := T.ex
  exact He.glo_ok X G (T.says.fact 82 (f := .glo "Statement") rfl)
theorem Txt.c_Naming (T : Txt K mg) : Cls K (He.ga K "Naming") := He.cls_ok (T.says.fact 83 (f := .cls "Naming") rfl)
theorem Txt.k_Naming (T : Txt K mg) : Mk K (He.ga K "Naming") (He.ma K (He.ga K "Naming") "__init__") := He.mkr_ok (T.says.fact 84 (f := .mkr "Naming") rfl)
theorem Txt.a_Naming_own_person (T : Txt K mg) : NoAttr K (He.ga K "Naming") "own_person" := He.noat_ok (T.says.fact 85 (f := .noat "Naming" "own_person") rfl)
theorem Txt.a_Naming_own_days (T : Txt K mg) : NoAttr K (He.ga K "Naming") "own_days" := He.noat_ok (T.says.fact 86 (f := .noat "Naming" "own_days") rfl)
theorem Txt.a_Naming_own_name (T : Txt K mg) : NoAttr K (He.ga K "Naming") "own_name" := He.noat_ok (T.says.fact 87 (f := .noat "Naming" "own_name") rfl)
theorem Txt.a_Naming_own_chain (T : Txt K mg) : NoAttr K (He.ga K "Naming") "own_chain" := He.noat_ok (T.says.fact 88 (f := .noat "Naming" "own_chain") rfl)
theorem Txt.c_Leave (T : Txt K mg) : Cls K (He.ga K "Leave") := He.cls_ok (T.says.fact 89 (f := .cls "Leave") rfl)
theorem Txt.k_Leave (T : Txt K mg) : Mk K (He.ga K "Leave") (He.ma K (He.ga K "Leave") "__init__") := He.mkr_ok (T.says.fact 90 (f := .mkr "Leave") rfl)
theorem Txt.a_Leave_own_person (T : Txt K mg) : NoAttr K (He.ga K "Leave") "own_person" := He.noat_ok (T.says.fact 91 (f := .noat "Leave" "own_person") rfl)
theorem Txt.a_Leave_own_days (T : Txt K mg) : NoAttr K (He.ga K "Leave") "own_days" := He.noat_ok (T.says.fact 92 (f := .noat "Leave" "own_days") rfl)
theorem Txt.a_Leave_own_subject (T : Txt K mg) : NoAttr K (He.ga K "Leave") "own_subject" := He.noat_ok (T.says.fact 93 (f := .noat "Leave" "own_subject") rfl)
theorem Txt.a_Leave_own_tags (T : Txt K mg) : NoAttr K (He.ga K "Leave") "own_tags" := He.noat_ok (T.says.fact 94 (f := .noat "Leave" "own_tags") rfl)
theorem Txt.a_Leave_own_times (T : Txt K mg) : NoAttr K (He.ga K "Leave") "own_times" := He.noat_ok (T.says.fact 95 (f := .noat "Leave" "own_times") rfl)
theorem Txt.c_Book (T : Txt K mg) : Cls K (He.ga K "Book") := He.cls_ok (T.says.fact 96 (f := .cls "Book") rfl)
theorem Txt.k_Book (T : Txt K mg) : Mk K (He.ga K "Book") (He.ma K (He.ga K "Book") "__init__") := He.mkr_ok (T.says.fact 97 (f := .mkr "Book") rfl)
theorem Txt.a_Book_own_statements (T : Txt K mg) : NoAttr K (He.ga K "Book") "own_statements" := He.noat_ok (T.says.fact 98 (f := .noat "Book" "own_statements") rfl)
theorem Txt.a_Book_own_persons (T : Txt K mg) : NoAttr K (He.ga K "Book") "own_persons" := He.noat_ok (T.says.fact 99 (f := .noat "Book" "own_persons") rfl)
theorem Txt.a_Book_own_names (T : Txt K mg) : NoAttr K (He.ga K "Book") "own_names" := He.noat_ok (T.says.fact 100 (f := .noat "Book" "own_names") rfl)
theorem Txt.m_Naming_facts (T : Txt K mg) : Meth K (He.ga K "Naming") "facts" (He.ma K (He.ga K "Naming") "facts") := He.meth_ok (T.says.fact 101 (f := .meth "Naming" "facts") rfl)
theorem Txt.m_Leave_facts (T : Txt K mg) : Meth K (He.ga K "Leave") "facts" (He.ma K (He.ga K "Leave") "facts") := He.meth_ok (T.says.fact 102 (f := .meth "Leave" "facts") rfl)
theorem Txt.m_Leave_needed (T : Txt K mg) : Meth K (He.ga K "Leave") "needed" (He.ma K (He.ga K "Leave") "needed") := He.meth_ok (T.says.fact 103 (f := .meth "Leave" "needed") rfl)
theorem Txt.m_Book_with_more (T : Txt K mg) : Meth K (He.ga K "Book") "with_more" (He.ma K (He.ga K "Book") "with_more") := He.meth_ok (T.says.fact 104 (f := .meth "Book" "with_more") rfl)
theorem Txt.f_persons_in (T : Txt K mg) : ∃ fd, FunD K NC.d_persons_in.name NC.d_persons_in.qual NC.d_persons_in.params NC.d_persons_in.body NC.d_persons_in.scope [] [] (He.fAd K NC.d_persons_in.at_) fd := T.says.def_ 0 (d := NC.d_persons_in) rfl
theorem Txt.f_table_from (T : Txt K mg) : ∃ fd, FunD K NC.d_table_from.name NC.d_table_from.qual NC.d_table_from.params NC.d_table_from.body NC.d_table_from.scope [] [] (He.fAd K NC.d_table_from.at_) fd := T.says.def_ 1 (d := NC.d_table_from) rfl
theorem Txt.f_is_integer (T : Txt K mg) : ∃ fd, FunD K NC.d_is_integer.name NC.d_is_integer.qual NC.d_is_integer.params NC.d_is_integer.body NC.d_is_integer.scope [] [] (He.fAd K NC.d_is_integer.at_) fd := T.says.def_ 2 (d := NC.d_is_integer) rfl
theorem Txt.f_is_number (T : Txt K mg) : ∃ fd, FunD K NC.d_is_number.name NC.d_is_number.qual NC.d_is_number.params NC.d_is_number.body NC.d_is_number.scope [] [] (He.fAd K NC.d_is_number.at_) fd := T.says.def_ 3 (d := NC.d_is_number) rfl
theorem Txt.f_is_word (T : Txt K mg) : ∃ fd, FunD K NC.d_is_word.name NC.d_is_word.qual NC.d_is_word.params NC.d_is_word.body NC.d_is_word.scope [] [] (He.fAd K NC.d_is_word.at_) fd := T.says.def_ 4 (d := NC.d_is_word) rfl
theorem Txt.f_is_stretch (T : Txt K mg) : ∃ fd, FunD K NC.d_is_stretch.name NC.d_is_stretch.qual NC.d_is_stretch.params NC.d_is_stretch.body NC.d_is_stretch.scope [] [] (He.fAd K NC.d_is_stretch.at_) fd := T.says.def_ 5 (d := NC.d_is_stretch) rfl
theorem Txt.f_is_chain (T : Txt K mg) : ∃ fd, FunD K NC.d_is_chain.name NC.d_is_chain.qual NC.d_is_chain.params NC.d_is_chain.body NC.d_is_chain.scope [] [] (He.fAd K NC.d_is_chain.at_) fd := T.says.def_ 6 (d := NC.d_is_chain) rfl
theorem Txt.f_routes (T : Txt K mg) : ∃ fd, FunD K NC.d_routes.name NC.d_routes.qual NC.d_routes.params NC.d_routes.body NC.d_routes.scope [] [] (He.fAd K NC.d_routes.at_) fd := T.says.def_ 7 (d := NC.d_routes) rfl
theorem Txt.f_all_lines (T : Txt K mg) : ∃ fd, FunD K NC.d_all_lines.name NC.d_all_lines.qual NC.d_all_lines.params NC.d_all_lines.body NC.d_all_lines.scope [] [] (He.fAd K NC.d_all_lines.at_) fd := T.says.def_ 8 (d := NC.d_all_lines) rfl
theorem Txt.f_used_lines (T : Txt K mg) : ∃ fd, FunD K NC.d_used_lines.name NC.d_used_lines.qual NC.d_used_lines.params NC.d_used_lines.body NC.d_used_lines.scope [] [] (He.fAd K NC.d_used_lines.at_) fd := T.says.def_ 9 (d := NC.d_used_lines) rfl
theorem Txt.f_renewed (T : Txt K mg) : ∃ fd, FunD K NC.d_renewed.name NC.d_renewed.qual NC.d_renewed.params NC.d_renewed.body NC.d_renewed.scope [] [] (He.fAd K NC.d_renewed.at_) fd := T.says.def_ 10 (d := NC.d_renewed) rfl
theorem Txt.f_yes_paper (T : Txt K mg) : ∃ fd, FunD K NC.d_yes_paper.name NC.d_yes_paper.qual NC.d_yes_paper.params NC.d_yes_paper.body NC.d_yes_paper.scope [] [] (He.fAd K NC.d_yes_paper.at_) fd := T.says.def_ 11 (d := NC.d_yes_paper) rfl
theorem Txt.f_rows_of (T : Txt K mg) : ∃ fd, FunD K NC.d_rows_of.name NC.d_rows_of.qual NC.d_rows_of.params NC.d_rows_of.body NC.d_rows_of.scope [] [] (He.fAd K NC.d_rows_of.at_) fd := T.says.def_ 12 (d := NC.d_rows_of) rfl
theorem Txt.f_is_subject (T : Txt K mg) : ∃ fd, FunD K NC.d_is_subject.name NC.d_is_subject.qual NC.d_is_subject.params NC.d_is_subject.body NC.d_is_subject.scope [] [] (He.fAd K NC.d_is_subject.at_) fd := T.says.def_ 13 (d := NC.d_is_subject) rfl
theorem Txt.f_namings_of (T : Txt K mg) : ∃ fd, FunD K NC.d_namings_of.name NC.d_namings_of.qual NC.d_namings_of.params NC.d_namings_of.body NC.d_namings_of.scope [] [] (He.fAd K NC.d_namings_of.at_) fd := T.says.def_ 14 (d := NC.d_namings_of) rfl
theorem Txt.f_named_by (T : Txt K mg) : ∃ fd, FunD K NC.d_named_by.name NC.d_named_by.qual NC.d_named_by.params NC.d_named_by.body NC.d_named_by.scope [] [] (He.fAd K NC.d_named_by.at_) fd := T.says.def_ 15 (d := NC.d_named_by) rfl
theorem Txt.f_named_on_all (T : Txt K mg) : ∃ fd, FunD K NC.d_named_on_all.name NC.d_named_on_all.qual NC.d_named_on_all.params NC.d_named_on_all.body NC.d_named_on_all.scope [] [] (He.fAd K NC.d_named_on_all.at_) fd := T.says.def_ 16 (d := NC.d_named_on_all) rfl
theorem Txt.f_named_on_some (T : Txt K mg) : ∃ fd, FunD K NC.d_named_on_some.name NC.d_named_on_some.qual NC.d_named_on_some.params NC.d_named_on_some.body NC.d_named_on_some.scope [] [] (He.fAd K NC.d_named_on_some.at_) fd := T.says.def_ 17 (d := NC.d_named_on_some) rfl
theorem Txt.f_paper_for (T : Txt K mg) : ∃ fd, FunD K NC.d_paper_for.name NC.d_paper_for.qual NC.d_paper_for.params NC.d_paper_for.body NC.d_paper_for.scope [] [] (He.fAd K NC.d_paper_for.at_) fd := T.says.def_ 18 (d := NC.d_paper_for) rfl
theorem Txt.f_need_statements (T : Txt K mg) : ∃ fd, FunD K NC.d_need_statements.name NC.d_need_statements.qual NC.d_need_statements.params NC.d_need_statements.body NC.d_need_statements.scope [] [] (He.fAd K NC.d_need_statements.at_) fd := T.says.def_ 19 (d := NC.d_need_statements) rfl
theorem Txt.f_need_unlike (T : Txt K mg) : ∃ fd, FunD K NC.d_need_unlike.name NC.d_need_unlike.qual NC.d_need_unlike.params NC.d_need_unlike.body NC.d_need_unlike.scope [] [] (He.fAd K NC.d_need_unlike.at_) fd := T.says.def_ 20 (d := NC.d_need_unlike) rfl
theorem Txt.f_words_of (T : Txt K mg) : ∃ fd, FunD K NC.d_words_of.name NC.d_words_of.qual NC.d_words_of.params NC.d_words_of.body NC.d_words_of.scope [] [] (He.fAd K NC.d_words_of.at_) fd := T.says.def_ 21 (d := NC.d_words_of) rfl
theorem Txt.f_law_pen (T : Txt K mg) : ∃ fd, FunD K NC.d_law_pen.name NC.d_law_pen.qual NC.d_law_pen.params NC.d_law_pen.body NC.d_law_pen.scope [] [] (He.fAd K NC.d_law_pen.at_) fd := T.says.def_ 22 (d := NC.d_law_pen) rfl
theorem Txt.f_law_draw (T : Txt K mg) : ∃ fd, FunD K NC.d_law_draw.name NC.d_law_draw.qual NC.d_law_draw.params NC.d_law_draw.body NC.d_law_draw.scope [] [] (He.fAd K NC.d_law_draw.at_) fd := T.says.def_ 23 (d := NC.d_law_draw) rfl
theorem Txt.f_law_pick (T : Txt K mg) : ∃ fd, FunD K NC.d_law_pick.name NC.d_law_pick.qual NC.d_law_pick.params NC.d_law_pick.body NC.d_law_pick.scope [] [] (He.fAd K NC.d_law_pick.at_) fd := T.says.def_ 24 (d := NC.d_law_pick) rfl
theorem Txt.f_law_great (T : Txt K mg) : ∃ fd, FunD K NC.d_law_great.name NC.d_law_great.qual NC.d_law_great.params NC.d_law_great.body NC.d_law_great.scope [] [] (He.fAd K NC.d_law_great.at_) fd := T.says.def_ 25 (d := NC.d_law_great) rfl
theorem Txt.f_law_words (T : Txt K mg) : ∃ fd, FunD K NC.d_law_words.name NC.d_law_words.qual NC.d_law_words.params NC.d_law_words.body NC.d_law_words.scope [] [] (He.fAd K NC.d_law_words.at_) fd := T.says.def_ 26 (d := NC.d_law_words) rfl
theorem Txt.f_law_is_word (T : Txt K mg) : ∃ fd, FunD K NC.d_law_is_word.name NC.d_law_is_word.qual NC.d_law_is_word.params NC.d_law_is_word.body NC.d_law_is_word.scope [] [] (He.fAd K NC.d_law_is_word.at_) fd := T.says.def_ 27 (d := NC.d_law_is_word) rfl
theorem Txt.f_law_spot (T : Txt K mg) : ∃ fd, FunD K NC.d_law_spot.name NC.d_law_spot.qual NC.d_law_spot.params NC.d_law_spot.body NC.d_law_spot.scope [] [] (He.fAd K NC.d_law_spot.at_) fd := T.says.def_ 28 (d := NC.d_law_spot) rfl
theorem Txt.f_law_span (T : Txt K mg) : ∃ fd, FunD K NC.d_law_span.name NC.d_law_span.qual NC.d_law_span.params NC.d_law_span.body NC.d_law_span.scope [] [] (He.fAd K NC.d_law_span.at_) fd := T.says.def_ 29 (d := NC.d_law_span) rfl
theorem Txt.f_law_days (T : Txt K mg) : ∃ fd, FunD K NC.d_law_days.name NC.d_law_days.qual NC.d_law_days.params NC.d_law_days.body NC.d_law_days.scope [] [] (He.fAd K NC.d_law_days.at_) fd := T.says.def_ 30 (d := NC.d_law_days) rfl
theorem Txt.f_law_chain (T : Txt K mg) : ∃ fd, FunD K NC.d_law_chain.name NC.d_law_chain.qual NC.d_law_chain.params NC.d_law_chain.body NC.d_law_chain.scope [] [] (He.fAd K NC.d_law_chain.at_) fd := T.says.def_ 31 (d := NC.d_law_chain) rfl
theorem Txt.f_law_naming (T : Txt K mg) : ∃ fd, FunD K NC.d_law_naming.name NC.d_law_naming.qual NC.d_law_naming.params NC.d_law_naming.body NC.d_law_naming.scope [] [] (He.fAd K NC.d_law_naming.at_) fd := T.says.def_ 32 (d := NC.d_law_naming) rfl
theorem Txt.f_law_subject (T : Txt K mg) : ∃ fd, FunD K NC.d_law_subject.name NC.d_law_subject.qual NC.d_law_subject.params NC.d_law_subject.body NC.d_law_subject.scope [] [] (He.fAd K NC.d_law_subject.at_) fd := T.says.def_ 33 (d := NC.d_law_subject) rfl
theorem Txt.f_law_leave (T : Txt K mg) : ∃ fd, FunD K NC.d_law_leave.name NC.d_law_leave.qual NC.d_law_leave.params NC.d_law_leave.body NC.d_law_leave.scope [] [] (He.fAd K NC.d_law_leave.at_) fd := T.says.def_ 34 (d := NC.d_law_leave) rfl
theorem Txt.f_law_made (T : Txt K mg) : ∃ fd, FunD K NC.d_law_made.name NC.d_law_made.qual NC.d_law_made.params NC.d_law_made.body NC.d_law_made.scope [] [] (He.fAd K NC.d_law_made.at_) fd := T.says.def_ 35 (d := NC.d_law_made) rfl
theorem Txt.f_law_book (T : Txt K mg) : ∃ fd, FunD K NC.d_law_book.name NC.d_law_book.qual NC.d_law_book.params NC.d_law_book.body NC.d_law_book.scope [] [] (He.fAd K NC.d_law_book.at_) fd := T.says.def_ 36 (d := NC.d_law_book) rfl
theorem Txt.f_law_plain_book (T : Txt K mg) : ∃ fd, FunD K NC.d_law_plain_book.name NC.d_law_plain_book.qual NC.d_law_plain_book.params NC.d_law_plain_book.body NC.d_law_plain_book.scope [] [] (He.fAd K NC.d_law_plain_book.at_) fd := T.says.def_ 37 (d := NC.d_law_plain_book) rfl
theorem Txt.f_law_town (T : Txt K mg) : ∃ fd, FunD K NC.d_law_town.name NC.d_law_town.qual NC.d_law_town.params NC.d_law_town.body NC.d_law_town.scope [] [] (He.fAd K NC.d_law_town.at_) fd := T.says.def_ 38 (d := NC.d_law_town) rfl
theorem Txt.f_law_asked (T : Txt K mg) : ∃ fd, FunD K NC.d_law_asked.name NC.d_law_asked.qual NC.d_law_asked.params NC.d_law_asked.body NC.d_law_asked.scope [] [] (He.fAd K NC.d_law_asked.at_) fd := T.says.def_ 39 (d := NC.d_law_asked) rfl
theorem Txt.f_law_held (T : Txt K mg) : ∃ fd, FunD K NC.d_law_held.name NC.d_law_held.qual NC.d_law_held.params NC.d_law_held.body NC.d_law_held.scope [] [] (He.fAd K NC.d_law_held.at_) fd := T.says.def_ 40 (d := NC.d_law_held) rfl
theorem Txt.f_law_reach (T : Txt K mg) : ∃ fd, FunD K NC.d_law_reach.name NC.d_law_reach.qual NC.d_law_reach.params NC.d_law_reach.body NC.d_law_reach.scope [] [] (He.fAd K NC.d_law_reach.at_) fd := T.says.def_ 41 (d := NC.d_law_reach) rfl
theorem Txt.f_law_rounds (T : Txt K mg) : ∃ fd, FunD K NC.d_law_rounds.name NC.d_law_rounds.qual NC.d_law_rounds.params NC.d_law_rounds.body NC.d_law_rounds.scope [] [] (He.fAd K NC.d_law_rounds.at_) fd := T.says.def_ 42 (d := NC.d_law_rounds) rfl
theorem Txt.f_law_segments (T : Txt K mg) : ∃ fd, FunD K NC.d_law_segments.name NC.d_law_segments.qual NC.d_law_segments.params NC.d_law_segments.body NC.d_law_segments.scope [] [] (He.fAd K NC.d_law_segments.at_) fd := T.says.def_ 43 (d := NC.d_law_segments) rfl
theorem Txt.f_law_is_place (T : Txt K mg) : ∃ fd, FunD K NC.d_law_is_place.name NC.d_law_is_place.qual NC.d_law_is_place.params NC.d_law_is_place.body NC.d_law_is_place.scope [] [] (He.fAd K NC.d_law_is_place.at_) fd := T.says.def_ 44 (d := NC.d_law_is_place) rfl
theorem Txt.f_law_led (T : Txt K mg) : ∃ fd, FunD K NC.d_law_led.name NC.d_law_led.qual NC.d_law_led.params NC.d_law_led.body NC.d_law_led.scope [] [] (He.fAd K NC.d_law_led.at_) fd := T.says.def_ 45 (d := NC.d_law_led) rfl
theorem Txt.f_law_is_line (T : Txt K mg) : ∃ fd, FunD K NC.d_law_is_line.name NC.d_law_is_line.qual NC.d_law_is_line.params NC.d_law_is_line.body NC.d_law_is_line.scope [] [] (He.fAd K NC.d_law_is_line.at_) fd := T.says.def_ 46 (d := NC.d_law_is_line) rfl
theorem Txt.f_law_rows_table (T : Txt K mg) : ∃ fd, FunD K NC.d_law_rows_table.name NC.d_law_rows_table.qual NC.d_law_rows_table.params NC.d_law_rows_table.body NC.d_law_rows_table.scope [] [] (He.fAd K NC.d_law_rows_table.at_) fd := T.says.def_ 47 (d := NC.d_law_rows_table) rfl
theorem Txt.f_law_keeps (T : Txt K mg) : ∃ fd, FunD K NC.d_law_keeps.name NC.d_law_keeps.qual NC.d_law_keeps.params NC.d_law_keeps.body NC.d_law_keeps.scope [] [] (He.fAd K NC.d_law_keeps.at_) fd := T.says.def_ 48 (d := NC.d_law_keeps) rfl
theorem Txt.f_law_is_paper (T : Txt K mg) : ∃ fd, FunD K NC.d_law_is_paper.name NC.d_law_is_paper.qual NC.d_law_is_paper.params NC.d_law_is_paper.body NC.d_law_is_paper.scope [] [] (He.fAd K NC.d_law_is_paper.at_) fd := T.says.def_ 49 (d := NC.d_law_is_paper) rfl
theorem Txt.f_law_kind_for (T : Txt K mg) : ∃ fd, FunD K NC.d_law_kind_for.name NC.d_law_kind_for.qual NC.d_law_kind_for.params NC.d_law_kind_for.body NC.d_law_kind_for.scope [] [] (He.fAd K NC.d_law_kind_for.at_) fd := T.says.def_ 50 (d := NC.d_law_kind_for) rfl
theorem Txt.f_law_inner (T : Txt K mg) : ∃ fd, FunD K NC.d_law_inner.name NC.d_law_inner.qual NC.d_law_inner.params NC.d_law_inner.body NC.d_law_inner.scope [] [] (He.fAd K NC.d_law_inner.at_) fd := T.says.def_ 51 (d := NC.d_law_inner) rfl
theorem Txt.f_law_told_right (T : Txt K mg) : ∃ fd, FunD K NC.d_law_told_right.name NC.d_law_told_right.qual NC.d_law_told_right.params NC.d_law_told_right.body NC.d_law_told_right.scope [] [] (He.fAd K NC.d_law_told_right.at_) fd := T.says.def_ 52 (d := NC.d_law_told_right) rfl
theorem Txt.f_law (T : Txt K mg) : ∃ fd, FunD K NC.d_law.name NC.d_law.qual NC.d_law.params NC.d_law.body NC.d_law.scope [] [] (He.fAd K NC.d_law.at_) fd := T.says.def_ 53 (d := NC.d_law) rfl
theorem Txt.f_Statement_init (T : Txt K mg) : ∃ fd, FunD K NC.d_Statement_init.name NC.d_Statement_init.qual NC.d_Statement_init.params NC.d_Statement_init.body NC.d_Statement_init.scope [] [] (He.fAd K NC.d_Statement_init.at_) fd := T.says.def_ 54 (d := NC.d_Statement_init) rfl
theorem Txt.f_Naming_facts (T : Txt K mg) : ∃ fd, FunD K NC.d_Naming_facts.name NC.d_Naming_facts.qual NC.d_Naming_facts.params NC.d_Naming_facts.body NC.d_Naming_facts.scope [] [] (He.fAd K NC.d_Naming_facts.at_) fd := T.says.def_ 55 (d := NC.d_Naming_facts) rfl
theorem Txt.f_Leave_facts (T : Txt K mg) : ∃ fd, FunD K NC.d_Leave_facts.name NC.d_Leave_facts.qual NC.d_Leave_facts.params NC.d_Leave_facts.body NC.d_Leave_facts.scope [] [] (He.fAd K NC.d_Leave_facts.at_) fd := T.says.def_ 56 (d := NC.d_Leave_facts) rfl
theorem Txt.f_Leave_needed (T : Txt K mg) : ∃ fd, FunD K NC.d_Leave_needed.name NC.d_Leave_needed.qual NC.d_Leave_needed.params NC.d_Leave_needed.body NC.d_Leave_needed.scope [] [] (He.fAd K NC.d_Leave_needed.at_) fd := T.says.def_ 57 (d := NC.d_Leave_needed) rfl
theorem Txt.f_Book_init (T : Txt K mg) : ∃ fd, FunD K NC.d_Book_init.name NC.d_Book_init.qual NC.d_Book_init.params NC.d_Book_init.body NC.d_Book_init.scope [] [] (He.fAd K NC.d_Book_init.at_) fd := T.says.def_ 58 (d := NC.d_Book_init) rfl
theorem Txt.f_Book_with_more (T : Txt K mg) : ∃ fd, FunD K NC.d_Book_with_more.name NC.d_Book_with_more.qual NC.d_Book_with_more.params NC.d_Book_with_more.body NC.d_Book_with_more.scope [] [] (He.fAd K NC.d_Book_with_more.at_) fd := T.says.def_ 59 (d := NC.d_Book_with_more) rfl
end
end NC
-- NcHead
set_option Elab.async false
set_option linter.all false
set_option maxRecDepth 100000
set_option maxHeartbeats 0
/-! The head: the top's one run. -/
namespace NC
open PySem PySem.Spec PyProof.Rows L2
abbrev R : PySem.W.OpenRow := PySem.W.OpenLaw.row PySem.Challenge.rw_namechains_k20_whole_papers_for_stretche
def ob (s : PySem.W.SharedT) : AlX := obsXG (HandSHeadRun.getT s)
theorem ob_eq (s : PySem.W.SharedT) : ob s = hookX.obs s.abs := obsXG_eq (HandSHeadRun.getT_eq s)
def nm0 : List PySem.Str := ["_wall", "LIMIT", "MAX_LETTERS", "MAX_NAMES", "MAX_STATEMENTS", "MAX_CHAINS", "MAX_TIMES", "persons_in", "table_from", "LETTERS", "is_integer", "is_number", "is_word", "is_stretch", "is_chain", "is_inside", "routes", "all_lines", "used_lines", "renewed", "yes_paper", "rows_of", "InvalidWord", "InvalidChain", "InvalidStretch", "InvalidSubject", "InvalidTimes", "InvalidDay", "InvalidStatement", "Repeated"]
def nm1 : List PySem.Str := ["OutOfRange", "TooMany", "ALL_DAYS", "is_subject", "Statement", "Naming", "Leave", "namings_of", "named_by", "named_on_all", "named_on_some", "paper_for", "need_statements", "need_unlike", "words_of", "Book", "facts_of", "Day", "_law_pen", "_law_draw", "_law_pick", "_law_great", "_law_words", "_law_is_word", "_law_spot", "_law_span", "_law_days", "_law_chain", "_law_naming", "_law_subject"]
def nm2 : List PySem.Str := ["_law_leave", "_law_made", "_law_book", "_law_plain_book", "_law_town", "_law_asked", "_law_held", "_law_reach", "_law_rounds", "_law_segments", "_law_is_place", "_law_led", "_law_is_line", "_law_rows_table", "_law_keeps", "_law_is_paper", "_law_kind_for", "_law_inner", "_law_told_right"]
def names : List PySem.Str := nm0 ++ nm1 ++ nm2
theorem run (w : World) : HandSHeadRun.RunEq R (PySem.W.view R.prog [87]) hookX ob 100000 names w := by
  intro os
  kernel_rfl
end NC
-- NcWhole
set_option Elab.async false
set_option linter.all false
set_option maxRecDepth 100000
set_option maxHeartbeats 4000000
/-! The program's tables are whole: looked at in parts. -/
namespace NC
open PySem PySem.TablesWhole
theorem tabs_app (top : Scope) (cx : TablesWhole.Ctx) (sc : Scope) : ∀ a b : List Stmt, wSs TablesWhole.holds top cx sc (a ++ b) = (wSs TablesWhole.holds top cx sc a && wSs TablesWhole.holds top cx sc b)
  | [], b => by
    show wSs TablesWhole.holds top cx sc b = (true && _)
    rw [Bool.true_and]
  | x :: a, b => by
    show (wS TablesWhole.holds top cx sc x && wSs TablesWhole.holds top cx sc (a ++ b)) = ((wS TablesWhole.holds top cx sc x && wSs TablesWhole.holds top cx sc a) && _)
    rw [tabs_app top cx sc a b, Bool.and_assoc]
theorem tabs_parts (top : Scope) (cx : TablesWhole.Ctx) (sc : Scope) (n : Nat) : ∀ (k : Nat) (l : List Stmt), l.length ≤ n * k → (∀ i, i < k → wSs TablesWhole.holds top cx sc ((l.drop (n * i)).take n) = true) → wSs TablesWhole.holds top cx sc l = true
  | 0, l, hl, _ => by
    have e : l = [] := List.eq_nil_of_length_eq_zero (by omega)
    rw [e]
    rfl
  | k + 1, l, hl, h => by
    have h0 := h 0 (Nat.succ_pos k)
    rw [Nat.mul_zero, List.drop_zero] at h0
    have e : l = l.take n ++ l.drop n := (List.take_append_drop n l).symm
    rw [e, tabs_app, h0, Bool.true_and]
    refine tabs_parts top cx sc n k (l.drop n) ?_ fun i hi => ?_
    · rw [List.length_drop]
      rw [Nat.mul_succ] at hl
      omega
    · have z := h (i + 1) (Nat.succ_lt_succ hi)
      rw [Nat.mul_succ] at z
      rw [List.drop_drop, show n + n * i = n * i + n by omega]
      exact z
theorem module_whole (m : Module) (h1 : wSs gather m.scope ⟨m.scope, [], [], [], none⟩ m.scope m.body = []) (h2 : noTwice m.scope = true) (h3 : wSs TablesWhole.holds m.scope ⟨m.scope, [], [], [], none⟩ m.scope m.body = true) : wModule TablesWhole.holds m = true := by
  unfold wModule
  rw [h1]
  show (true && (noTwice m.scope && (wSs TablesWhole.holds m.scope ⟨m.scope, [], [], [], none⟩ m.scope m.body && true))) = true
  rw [h2, h3]
  rfl
theorem prog_whole (p : Program) (e1 : p.modules = []) (e2 : p.parses = []) (e3 : p.harvested = []) (h : wModule TablesWhole.holds p.main = true) : p.tablesWhole = true := by
  unfold Program.tablesWhole wProgram
  rw [e1, e2, e3]
  show (wModule TablesWhole.holds p.main && (true && (true && (true && true)))) = true
  rw [h]
  rfl
abbrev mainM : Module := R.prog.main
abbrev cx0 : TablesWhole.Ctx := ⟨mainM.scope, [], [], [], none⟩
theorem tabs_told : wSs gather mainM.scope cx0 mainM.scope mainM.body = [] := by kernel_rfl
theorem tabs_twice : noTwice mainM.scope = true := by kernel_rfl
theorem tabs_0 : wSs TablesWhole.holds mainM.scope cx0 mainM.scope ((mainM.body.drop (4 * 0)).take 4) = true := by kernel_rfl
theorem tabs_1 : wSs TablesWhole.holds mainM.scope cx0 mainM.scope ((mainM.body.drop (4 * 1)).take 4) = true := by kernel_rfl
theorem tabs_2 : wSs TablesWhole.holds mainM.scope cx0 mainM.scope ((mainM.body.drop (4 * 2)).take 4) = true := by kernel_rfl
theorem tabs_3 : wSs TablesWhole.holds mainM.scope cx0 mainM.scope ((mainM.body.drop (4 * 3)).take 4) = true := by kernel_rfl
theorem tabs_4 : wSs TablesWhole.holds mainM.scope cx0 mainM.scope ((mainM.body.drop (4 * 4)).take 4) = true := by kernel_rfl
theorem tabs_5 : wSs TablesWhole.holds mainM.scope cx0 mainM.scope ((mainM.body.drop (4 * 5)).take 4) = true := by kernel_rfl
theorem tabs_6 : wSs TablesWhole.holds mainM.scope cx0 mainM.scope ((mainM.body.drop (4 * 6)).take 4) = true := by kernel_rfl
theorem tabs_7 : wSs TablesWhole.holds mainM.scope cx0 mainM.scope ((mainM.body.drop (4 * 7)).take 4) = true := by kernel_rfl
theorem tabs_8 : wSs TablesWhole.holds mainM.scope cx0 mainM.scope ((mainM.body.drop (4 * 8)).take 4) = true := by kernel_rfl
theorem tabs_9 : wSs TablesWhole.holds mainM.scope cx0 mainM.scope ((mainM.body.drop (4 * 9)).take 4) = true := by kernel_rfl
theorem tabs_10 : wSs TablesWhole.holds mainM.scope cx0 mainM.scope ((mainM.body.drop (4 * 10)).take 4) = true := by kernel_rfl
theorem tabs_11 : wSs TablesWhole.holds mainM.scope cx0 mainM.scope ((mainM.body.drop (4 * 11)).take 4) = true := by kernel_rfl
theorem tabs_12 : wSs TablesWhole.holds mainM.scope cx0 mainM.scope ((mainM.body.drop (4 * 12)).take 4) = true := by kernel_rfl
theorem tabs_13 : wSs TablesWhole.holds mainM.scope cx0 mainM.scope ((mainM.body.drop (4 * 13)).take 4) = true := by kernel_rfl
theorem tabs_14 : wSs TablesWhole.holds mainM.scope cx0 mainM.scope ((mainM.body.drop (4 * 14)).take 4) = true := by kernel_rfl
theorem tabs_15 : wSs TablesWhole.holds mainM.scope cx0 mainM.scope ((mainM.body.drop (4 * 15)).take 4) = true := by kernel_rfl
theorem tabs_16 : wSs TablesWhole.holds mainM.scope cx0 mainM.scope ((mainM.body.drop (4 * 16)).take 4) = true := by kernel_rfl
theorem tabs_17 : wSs TablesWhole.holds mainM.scope cx0 mainM.scope ((mainM.body.drop (4 * 17)).take 4) = true := by kernel_rfl
theorem tabs_18 : wSs TablesWhole.holds mainM.scope cx0 mainM.scope ((mainM.body.drop (4 * 18)).take 4) = true := by kernel_rfl
theorem tabs_19 : wSs TablesWhole.holds mainM.scope cx0 mainM.scope ((mainM.body.drop (4 * 19)).take 4) = true := by kernel_rfl
theorem tabs_20 : wSs TablesWhole.holds mainM.scope cx0 mainM.scope ((mainM.body.drop (4 * 20)).take 4) = true := by kernel_rfl
theorem tabs_21 : wSs TablesWhole.holds mainM.scope cx0 mainM.scope ((mainM.body.drop (4 * 21)).take 4) = true := by kernel_rfl
theorem tabs_len : mainM.body.length ≤ 4 * 22 := by
  have e : mainM.body.length = 88 := by kernel_rfl
  rw [e]
  decide
theorem tabs_all : wSs TablesWhole.holds mainM.scope cx0 mainM.scope mainM.body = true := by
  refine tabs_parts _ _ _ 4 22 _ tabs_len fun i hi => ?_
  match i, hi with
  | 0, _ => exact tabs_0
  | 1, _ => exact tabs_1
  | 2, _ => exact tabs_2
  | 3, _ => exact tabs_3
  | 4, _ => exact tabs_4
  | 5, _ => exact tabs_5
  | 6, _ => exact tabs_6
  | 7, _ => exact tabs_7
  | 8, _ => exact tabs_8
  | 9, _ => exact tabs_9
  | 10, _ => exact tabs_10
  | 11, _ => exact tabs_11
  | 12, _ => exact tabs_12
  | 13, _ => exact tabs_13
  | 14, _ => exact tabs_14
  | 15, _ => exact tabs_15
  | 16, _ => exact tabs_16
  | 17, _ => exact tabs_17
  | 18, _ => exact tabs_18
  | 19, _ => exact tabs_19
  | 20, _ => exact tabs_20
  | 21, _ => exact tabs_21
  | i + 22, hi => exact absurd hi (by omega)
theorem tabs_main : wModule TablesWhole.holds mainM = true := module_whole mainM tabs_told tabs_twice tabs_all
theorem tabs_whole : R.prog.tablesWhole = true := prog_whole R.prog (by kernel_rfl) (by kernel_rfl) (by kernel_rfl) tabs_main
end NC
-- NcLib
set_option Elab.async false
set_option linter.all false
set_option maxRecDepth 100000
set_option maxHeartbeats 4000000
/-! Small words of my own over the layer: heaps that grow, a write, a def by its name. -/
namespace NC
open PySem PySem.Spec PyProof.Rows L2
/-! ### heaps: all kept (Same), all but one kept (But) -/
def But (p : Addr) (H H' : Hp) : Prop := ∀ b o, b ≠ p → H b = some o → H' b = some o
theorem But.refl (p : Addr) (H : Hp) : But p H H := fun _ _ _ e => e
theorem But.trans {p : Addr} {H H1 H2 : Hp} (a : But p H H1) (b : But p H1 H2) : But p H H2 := fun c o h e => b c o h (a c o h e)
theorem But.same {p : Addr} {H H1 H2 : Hp} (a : But p H H1) (b : Same H1 H2) : But p H H2 := fun c o h e => b c o (a c o h e)
theorem Same.but {p : Addr} {H H1 H2 : Hp} (a : Same H H1) (b : But p H1 H2) : But p H H2 := fun c o h e => b c o h (a c o e)
theorem Same.to {p : Addr} {H H1 : Hp} (a : Same H H1) : But p H H1 := fun c o _ e => a c o e
/-- what was not there may change -/
theorem But.new {p : Addr} {H0 H H' : Hp} (s : Same H0 H) (w : But p H H') (n : H0 p = none) : Same H0 H' := fun b o e => w b o (ne_of_none e n) (s b o e)
theorem But.free {p : Addr} {H H' : Hp} {o : HO} (w : But p H H') (hp : H' p = some o) {b : Addr} (n : H' b = none) : H b = none := by
  cases e : H b with
  | none => rfl
  | some u =>
    by_cases q : b = p
    · subst q
      rw [hp] at n
      cases n
    · rw [w b u q e] at n
      cases n
theorem upd_but {H : Hp} {p : Addr} {o : HO} : But p H (upd H p o) := fun b u h e => by rw [upd_ne h]; exact e
theorem upd_new {H : Hp} {p : Addr} {o : HO} (n : H p = none) : Same H (upd H p o) := fun b u e => by rw [upd_ne (ne_of_none e n)]; exact e
/-- a new object: the heap behind, named -/
@[elab_as_elim] theorem kNew {H : Hp} {p : Addr} {o : HO} {R : Hp → Prop} (n : H p = none) (h : ∀ H', Same H H' → H' p = some o → R H') : R (upd H p o) := h _ (upd_new n) upd_same
/-- a write -/
@[elab_as_elim] theorem kPut {H : Hp} {p : Addr} {o : HO} {R : Hp → Prop} (h : ∀ H', But p H H' → H' p = some o → R H') : R (upd H p o) := h _ upd_but upd_same

theorem iteD {c A B : Prop} [Decidable c] (h1 : c → A) (h2 : ¬ c → B) : if decide c = true then A else B := by
  by_cases h : c
  · rw [if_pos (decide_eq_true h)]
    exact h1 h
  · rw [if_neg (by simp [h])]
    exact h2 h
theorem iteDN {c A B : Prop} [Decidable c] (h1 : ¬ c → A) (h2 : c → B) : if (!decide c) = true then A else B := by
  by_cases h : c
  · rw [if_neg (by simp [h])]
    exact h2 h
  · rw [if_pos (by simp [h])]
    exact h1 h
theorem iteB {b : Bool} {A B : Prop} (h1 : b = true → A) (h2 : b = false → B) : if b = true then A else B := by
  cases b with
  | true => exact h1 rfl
  | false => exact h2 rfl
theorem iteK {b : Bool} {A B : Prop} (h : b = true) (h1 : A) : if b = true then A else B := by
  rw [h]
  exact h1
theorem iteN {b : Bool} {A B : Prop} (h : b = false) (h1 : B) : if b = true then A else B := by
  rw [h]
  exact h1
/-! ### what stays -/
def Imm : HO → Bool
  | .tup _ => true
  | .frz _ _ => true
  | _ => false
theorem sq_t {K : PySem.W.Frag} {H H' : Hp} {a : Addr} {xs : List V} (s : Same H H') (h : SqT K H a xs) : SqT K H' a xs := by
  rcases h with (h | ⟨o, h⟩) | h
  · exact .inl (.inl (s _ _ h))
  · exact .inl (.inr ⟨o, s _ _ h⟩)
  · exact .inr h
theorem sq_l {K : PySem.W.Frag} {H H' : Hp} {a : Addr} {xs : List V} (s : Same H H') (h : SqL K H a xs) : SqL K H' a xs := Same.seq s h
theorem bt_t {K : PySem.W.Frag} {p : Addr} {H H' : Hp} {a : Addr} {xs : List V} {o : HO} (w : But p H H') (hp : H p = some o) (ho : Imm o = false) (h : SqT K H a xs) : SqT K H' a xs := by
  have ne : ∀ u, Imm u = true → H a = some u → a ≠ p := fun u hu e z => by
    subst z
    rw [hp] at e
    cases e
    rw [ho] at hu
    cases hu
  rcases h with (h | ⟨o, h⟩) | h
  · exact .inl (.inl (w _ _ (ne _ rfl h) h))
  · exact .inl (.inr ⟨o, w _ _ (ne _ rfl h) h⟩)
  · exact .inr h
theorem bt_l {K : PySem.W.Frag} {p : Addr} {H H' : Hp} {a : Addr} {xs : List V} (w : But p H H') (ne : a ≠ p) (h : SqL K H a xs) : SqL K H' a xs := by
  rcases h with (h | ⟨o, h⟩) | h
  · exact .inl (.inl (w _ _ ne h))
  · exact .inl (.inr ⟨o, w _ _ ne h⟩)
  · exact .inr h
theorem sq_of {K : PySem.W.Frag} {H : Hp} {a : Addr} {xs : List V} (h : H a = some (.lst xs)) : SqL K H a xs := .inl (.inl h)
theorem st_of {K : PySem.W.Frag} {H : Hp} {a : Addr} {xs : List V} (h : H a = some (.tup xs)) : SqT K H a xs := .inl (.inl h)
theorem sz_of {n : Nat} (h : n ≤ 1000000) : n ≤ sizeLine := Nat.le_trans h (by decide)
theorem sz_lt {n : Nat} (h : n < 1000000) : n < sizeLine := Nat.lt_of_lt_of_le h (by decide)

theorem at_nat {α : Type} {xs : List α} {z : Int} {v : α} (h0 : 0 ≤ z) (h : xs[z.toNat]? = some v) : atI xs z = some v := by
  have e : z = ((z.toNat : Nat) : Int) := by omega
  rw [e]
  exact atI_nat h
/-! ### a statement's ways joined -/
def tCut (t u : TS) : TS := fun D σ H => ∃ Mid : L2.St → Hp → Prop, t { D with nx := Mid } σ H ∧ ∀ σ' H', Mid σ' H' → u D σ' H'
theorem pss_cut {X : Cx} {st : Stmt} {rest : List Stmt} {t u : TS} (h : PS X st t) (hr : PSs X rest u) : PSs X (st :: rest) (tCut t u) := by
  refine ⟨fun pins s σ H D I ⟨Mid, h1, h2⟩ => ?_⟩
  exact (pss_cons (t := t) (u := fun D σ H => Mid σ H ∧ u D σ H) h ⟨fun pins s σ H D I q => hr.run pins s σ H D I q.2⟩).run pins s σ H D I (by
    have mono : ∀ {D' : Ends}, t { D with nx := Mid } σ H → t { D with nx := fun σ H => Mid σ H ∧ u D σ H } σ H := fun {D'} z => by
      have e : (fun σ H => Mid σ H ∧ u D σ H) = Mid := by
        funext σ' H'
        exact propext ⟨fun z => z.1, fun z => ⟨z, h2 σ' H' z⟩⟩
      rw [e]
      exact z
    exact mono (D' := D) h1)
/-! ### a def of the module by its name -/
/-- the def x may be called by its name, with a room of k -/
structure Cal (P : Program) (w : World) (K : PySem.W.Frag) (mg : Str → Option Value) (base : Heap) (k : Nat) (x : Str) (sp : Sp) : Prop where
  ex : ∃ (f : Addr) (fd : FuncData) (ps : List Str), FnOk P w K mg base CX0 k f fd ps sp ∧ mg x = some (.ref f) ∧ PySem.W.keepIn K (.ref f) = true ∧ Binds K fd ps []
section
variable {X : Cx} {x : Str} {e : Expr} {es : List Expr} {p pos : Pos} {k j : Nat} {sp : Sp} {t : TA}
theorem pe_c (c : Cal X.prog X.w X.K X.mg X.base k x sp) (hr : Room j X.A) (hg : Gl X x) (ha : PA X (e :: es) t) (hk : k ≤ j := by decide)
    (hdb : (x == ("__debug__" : Str)) = false := by decide) (he : starEach (e :: es) X.env = (false, eval e X.env) :: starEach es X.env := by rfl) (hpl : (backTo pos (starEach es X.env)).any (·.1) = false := by rfl) :
    PE X (.Call (.Name x p) (e :: es) [] pos) (tCall sp [] E0 t) := by
  obtain ⟨f, fd, ps, F, hm, kp, b⟩ := c.ex
  exact pe_call F (hr.mono hk) hg hm kp b .nil pass0 ha hdb he hpl
end
section
variable {P : Program} {w : World} {K : PySem.W.Frag} {mg : Str → Option Value} {base : Heap}
theorem cal_of {x : Str} {params : Arguments} {body : List Stmt} {scope : Scope} {f : Addr} {N ps : List Str} {k : Nat} {sp : Sp}
    (F : ∃ fd, FunD K x x params body scope [] [] f fd) (g : mg x = some (.ref f)) (S : FnScope N ps scope) (len : ∀ vs H Q E, sp vs H Q E → vs.length = ps.length)
    (hb : ∀ (kV doc pm : Value) (an : Option Addr) (cdv ct : Value) (us : List Value), us.length = ps.length → bindArgs (PySem.W.fnOf x x params body scope .none kV doc pm an cdv ct) ⟨us, []⟩ = pure (ps.zip us))
    (hbody : ∀ (cdv : Value) (A : Around) (outer : List Env) (s : Shared) (H : Hp) (vs : List V) (Q : VK) (E : XK), Room k (A.deeper (envOfC x scope s.heap.objs.size f cdv)) → sp vs H Q E →
      ∃ t, PSs (cxOf CX0 P w K mg base N x scope f cdv A outer s H E).nox body t ∧ t { nx := fun _ H' => Q .non H', rt := Q } (start N vs) H) : Cal P w K mg base (k + 1) x sp := by
  obtain ⟨fd, F⟩ := F
  refine ⟨f, fd, ps, F.ok S len fun cdv A outer s H vs Q E hr h => ?_, g, F.kp, F.bindsN hb⟩
  obtain ⟨t, h1, h2⟩ := hbody cdv A outer s H vs Q E hr h
  exact ⟨t, h1.nox, h2⟩
theorem gint {x : Str} {i : Int} (h : ∃ t, mg x = some (.int i t)) : ∃ u, mg x = some u ∧ RelV (.int i) u := by
  obtain ⟨t, h⟩ := h
  exact ⟨_, h, t, rfl⟩
theorem gstr {x z : Str} (h : ∃ t, mg x = some (.str z t)) : ∃ u, mg x = some u ∧ RelV (.str z) u := by
  obtain ⟨t, h⟩ := h
  exact ⟨_, h, t, rfl⟩
end
end NC
namespace NC
open PySem PySem.Spec PyProof.Rows L2
section
variable {X : Cx} {x : Str} {p pos : Pos} {e : Expr} {es : List Expr} {t : TA} {id T : String} {r : List V → Hp → VK → Prop}
theorem bB (hc : CallR X (.builtin id) r) (hm : X.mg x = none) (ha : PA X (e :: es) t) (hg : Gl X x := by rfl) (hv : bootBuiltins x = some (.builtin id) := by decide +kernel) (hn : x ≠ "__name__" := by decide) (hdb : (x == ("__debug__" : Str)) = false := by decide)
    (he : starEach (e :: es) X.env = (false, eval e X.env) :: starEach es X.env := by rfl) (hpl : (backTo pos (starEach es X.env)).any (·.1) = false := by rfl) : PE X (.Call (.Name x p) (e :: es) [] pos) (tCB r t) := pe_callB hc hg hm hv ha hn hdb he hpl
theorem bT (hc : CallR X (.type T) r) (hm : X.mg x = none) (ha : PA X (e :: es) t) (hg : Gl X x := by rfl) (hv : bootBuiltins x = some (.type T) := by decide +kernel) (hn : x ≠ "__name__" := by decide) (hdb : (x == ("__debug__" : Str)) = false := by decide)
    (he : starEach (e :: es) X.env = (false, eval e X.env) :: starEach es X.env := by rfl) (hpl : (backTo pos (starEach es X.env)).any (·.1) = false := by rfl) : PE X (.Call (.Name x p) (e :: es) [] pos) (tCB r t) := pe_callTy hc hg hm hv ha hn hdb he hpl
/-- a written power -/
theorem pe_powc {i j r : Int} {a b : Nat} {p1 p2 : Pos} (h : i ^ j.toNat = r) (c : CPow i j) : PE X (.BinOp (.Constant (.int i) a p1) .Pow (.Constant (.int j) b p2) pos) (tC (.int r)) := by
  refine ⟨fun pins s σ H Q I q => (pe_op op_pow pe_int pe_int).run pins s σ H Q I ⟨i, j, rfl, rfl, c, ?_⟩⟩
  show Q (.int (i ^ j.toNat)) H
  rw [h]
  exact q
theorem pe_gi {i : Int} (h : ∃ t, X.mg x = some (.int i t)) (hg : Gl X x := by rfl) (hd : (x == ("__debug__" : Str)) = false := by decide) : PE X (.Name x p) (tC (.int i)) := by
  obtain ⟨t, h⟩ := h
  exact pe_glob hg h ⟨t, rfl⟩ hd
theorem pe_gz {z : Str} (h : ∃ t, X.mg x = some (.str z t)) (hg : Gl X x := by rfl) (hd : (x == ("__debug__" : Str)) = false := by decide) : PE X (.Name x p) (tC (.str z)) := by
  obtain ⟨t, h⟩ := h
  exact pe_glob hg h ⟨t, rfl⟩ hd
end
end NC
-- NcSuper
set_option Elab.async false
set_option linter.all false
set_option maxRecDepth 100000
set_option maxHeartbeats 4000000
/-! A method that closes over its class and says super().__init__(e, ..) once. -/
namespace NC
open PySem PySem.Spec PyProof.Rows L2 NdefX ClX
theorem execs_app (env : Env) : ∀ (a b : List Stmt), execs (a ++ b) env = (execs a env >>= fun f => match f with | .next => execs b env | f => pure f)
  | [], b => by
    rw [List.nil_append, execs_nil]
    rfl
  | st :: a, b => by
    rw [List.cons_append, execs_cons, execs_cons, execs_app env a b, bind_assoc]
    congr 1
    funext f
    cases f <;> rfl
theorem wpAt_app {M : Model} {A : Around} {c : Code} {E : Value → Shared → Prop} {s : Shared} {env : Env} {a b : List Stmt} {Q : Flow → Shared → Prop}
    (h : PySem.wpAt M A c (execs a env) (fun f s' => match f with | .next => PySem.wpAt M A c (execs b env) Q E s' | f => Q f s') E s) : PySem.wpAt M A c (execs (a ++ b) env) Q E s := by
  rw [execs_app]
  refine PySem.wpAt_bind (PySem.wpAt_mono h (fun f s' h' => ?_) fun _ _ x => x)
  cases f with
  | next => exact h'
  | brk => exact PySem.wpAt_of_wpAny (wpAny_pure h')
  | cont => exact PySem.wpAt_of_wpAny (wpAny_pure h')
  | ret v => exact PySem.wpAt_of_wpAny (wpAny_pure h')
/-- what must stand in the written part for a def that closes over its class C -/
structure SupD (K : PySem.W.Frag) (C g : Addr) (F : NF) (file : Str) (f cc : Addr) (fd : FuncData) : Prop where
  ex : ∃ (oc : Value) (od : Option Addr) (dV kV doc pm : Value) (an : Option Addr) (ct : Value) (osl : Array (Option Value)), fd = PySem.W.fnX F.name F.qual F.params F.body F.scope F.cl dV kV doc pm an (.ref F.c) ct ∧ K.lookup f = some ⟨oc, od, .func fd, osl⟩
  clo : F.cl = [(("__class__" : Str), cc)]
  cell : ∃ (cl : Value) (cld : Option Addr) (csl : Array (Option Value)), K.lookup cc = some ⟨cl, cld, .cell (some (.ref C)), csl⟩
  code : PySem.W.codeIn K (.ref F.c) F.qual = true
  fil : ∃ (ccl : Value) (cdd : Option Addr) (vs : Array Value) (ccs : Array (Option Value)) (tf : Tok), K.lookup F.c = some ⟨ccl, cdd, .fields vs, ccs⟩ ∧ vs[2]? = some (.str file tf)
  mro : ∃ cd, PySem.W.clsIn K C = some cd ∧ (cd.mro.dropWhile (· != .ref C)).drop 1 ≠ [] ∧ PySem.W.alongIn K "__init__" ((cd.mro.dropWhile (· != .ref C)).drop 1) = some (some (.ref g))
  sub : PySem.W.mroIn K C (.ref C) = some true
  fty : PySem.W.typeIn K (.ref g) = some (.type "function")
  fin : PySem.W.fnIn K g = true
  opq : PySem.W.nsIn K cStatics "thirdparty.any" = some none
section
variable {CX : CXT} {P : Program} {w : World} {K : PySem.W.Frag} {mg : Str → Option Value} {base : Heap} {k k2 : Nat} {C g f cc : Addr} {F : NF} {file : Str} {fd : FuncData} {N ps : List Str} {sp sp2 : Sp} {pre post : List Stmt} {e : Expr} {es : List Expr} {p0 p1 p2 p3 p4 : Pos} {ar : Arg}
theorem fn_super (D : SupD K C g F file f cc fd) (hfile : ((P.main.file : Str) == file) = true) (htop : (P.main.scope.names.lookup ("super" : Str)).isSome = false) (hmg : mg "super" = none) (S : NScope N ps ["__class__"] F.scope)
    (hks : F.scope.names.lookup ("super" : Str) = some .globalImplicit) (hhead : (F.params.posonlyargs ++ F.params.args).head? = some ar) (har : ps[0]? = some ar.arg)
    (len : ∀ vs H Q E, sp vs H Q E → vs.length = ps.length) (G : FnR P w K mg base (fun _ _ _ _ _ _ => False) k2 g sp2) (h2 : k2 ≤ k)
    (hbd : F.body = pre ++ .Expr (.Call (.Attribute (.Call (.Name "super" p0) [] [] p1) "__init__" p2) (e :: es) [] p3) p4 :: post)
    (hbody : ∀ (A : Around) (outer : List Env) (s : Shared) (H : Hp) (vs : List V) (Q : VK) (E : XK), Room k (A.deeper (envF F f s.heap.objs.size)) → sp vs H Q E →
      ∃ t1 ta t2, PSs (ncx CX P w K mg base N F f A outer s H E) pre t1 ∧ PA (ncx CX P w K mg base N F f A outer s H E) (e :: es) ta ∧ PSs (ncx CX P w K mg base N F f A outer s H E) post t2 ∧
        t1 { nx := fun σ1 H1 => ∃ x dx fs, σ1[0]? = some (some (V.ref x)) ∧ H1 x = some (.ins C dx fs) ∧ ta σ1 H1 fun us H2 => sp2 (.ref x :: us) H2 (fun _ H3 => t2 { nx := fun _ H' => Q .non H', rt := Q } σ1 H3) (fun _ _ _ => False), rt := Q } (startF N vs [none]) H)
    (hm : ∀ (A : Around) (outer : List Env) (s : Shared) (H : Hp) (E : XK), let env := (ncx CX P w K mg base N F f A outer s H E).env
      (∃ pl, eval (.Call (.Attribute (.Call (.Name "super" p0) [] [] p1) "__init__" p2) (e :: es) [] p3) env = (do
        let ov ← attributeBase (.Call (.Name "super" p0) [] [] p1) "__init__" env (eval (.Call (.Name "super" p0) [] [] p1) env)
        standAt p2.atName
        let (f, first) ← holding [ov] (getMethod ov "__init__" pl)
        callWith p3 f first (backTo p3 (starEach (e :: es) env)) [])) ∧ starEach (e :: es) env = (false, eval e env) :: starEach es env ∧ (backTo p3 (starEach es env)).any (·.1) = false ∧ interactive env = false ∧ swapsWith (.Call (.Attribute (.Call (.Name "super" p0) [] [] p1) "__init__" p2) (e :: es) [] p3) none p4.line env = pure false) :
    FnOk P w K mg base CX (k + 1) f fd ps sp := by
  obtain ⟨nm, ql, params, body, scope, clo, cda⟩ := F
  dsimp only at *
  obtain ⟨oc, od, dV, kV, doc, pm, an, ct, osl, rfl, lk⟩ := D.ex
  obtain ⟨cl, cld, csl, lcell⟩ := D.cell
  obtain ⟨ccl, cdd, vs2, ccs, tf, lcode, hvs2⟩ := D.fil
  obtain ⟨cd, hcd, _, halong⟩ := D.mro
  have ec : clo = [(("__class__" : Str), cc)] := D.clo
  subst ec
  refine ⟨len, fun A outer s H args us vs Q E hr e0 hb r hsp => ?_⟩
  have hl := len _ _ _ _ hsp
  have KX : K.In s.heap := e0.mod.kin.keeps fun b o e => (e0.bs b o e).1
  have lim : s.heap.NoLimit := e0.mod.nolimit.keeps fun b o e => (e0.bs b o e).1
  have hcellH : H cc = none := (e0.bs _ _ (e0.mod.kin _ _ lcell)).2
  have C0 : CellsAt [(("__class__" : Str), cc)] ["__class__"] [none] s.heap H := by
    have cas : ∀ {y : Str} {c : Addr}, [(("__class__" : Str), cc)].lookup y = some c → y = "__class__" ∧ c = cc := fun {y c} e => by
      have m := PySem.mem_of_lookup e
      rw [List.mem_singleton] at m
      exact ⟨congrArg Prod.fst m, congrArg Prod.snd m⟩
    refine ⟨rfl, fun y c e => ?_, fun x y c h1 h2 => (cas h1).1.trans (cas h2).1.symm, fun i y hi => ?_⟩
    · obtain ⟨_, rfl⟩ := cas e
      exact ⟨hcellH, _, _, KX _ _ lcell, rfl⟩
    · cases i with
      | zero =>
        cases hi
        exact ⟨cc, rfl, fun v hv => by cases hv⟩
      | succ i => cases hi
  obtain ⟨⟨pl, he⟩, hst, hpl, hint, hsw⟩ := hm A outer s H E
  refine ks_codeAny_call_defAt (fd := PySem.W.fnX nm ql params body scope [(("__class__" : Str), cc)] dV kV doc pm an (.ref cda) ct) hr.depth (KX _ _ lk) rfl lim (PySem.W.codeRec_of KX D.code) rfl hb S.nocell (fun x hx => S.par _ (List.of_mem_zip hx).1) (fun h₁ hns kp => ?_) S.co S.gen S.kind
  obtain ⟨t1, ta, t2, b1, ba, b2, q0⟩ := hbody A outer s H vs Q E (hr.deeper _) hsp
  have I0 := inv_startN (CX := CX) (P := P) (w := w) (E := E) (f := f) (F := ⟨nm, ql, params, body, scope, [(("__class__" : Str), cc)], cda⟩) (tk := s.toks + (ps.zip us).length) S hr.hd e0 hl r C0 hns kp
  have fin : ∀ {pins : List (Addr × Obj)} {s' : Shared} {σ' : L2.St} {H' : Hp} {v : V} {u : Value}, Inv (ncx CX P w K mg base N ⟨nm, ql, params, body, scope, [(("__class__" : Str), cc)], cda⟩ f A outer s H E) pins σ' H' s' → L2.RelV v u → Q v H' → CE outer P w H s Q u s' :=
    fun {pins s' σ' H' v u} J rv q => ⟨v, H', J.os, J.bare, J.base, J.hok, rv, q⟩
  have key : PySem.wpAt (model P w) (A.deeper (envF ⟨nm, ql, params, body, scope, [(("__class__" : Str), cc)], cda⟩ f s.heap.objs.size)) (.func body (envF ⟨nm, ql, params, body, scope, [(("__class__" : Str), cc)], cda⟩ f s.heap.objs.size))
      (execs (pre ++ .Expr (.Call (.Attribute (.Call (.Name "super" p0) [] [] p1) "__init__" p2) (e :: es) [] p3) p4 :: post) (envF ⟨nm, ql, params, body, scope, [(("__class__" : Str), cc)], cda⟩ f s.heap.objs.size))
      (fun fl s' => CR CX outer P w H s Q E (.ok (.ret (match fl with | .ret v => v | _ => .none))) s') (ncx CX P w K mg base N ⟨nm, ql, params, body, scope, [(("__class__" : Str), cc)], cda⟩ f A outer s H E).xe { s with heap := h₁, toks := s.toks + (ps.zip us).length } := by
    refine wpAt_app (PySem.wpAt_of_wpAny (thn (b1.run [] _ _ H _ I0 q0) fun fl s1 hs => ?_))
    cases fl with
    | brk =>
      obtain ⟨_, _, _, q⟩ := hs
      exact False.elim q
    | cont =>
      obtain ⟨_, _, _, q⟩ := hs
      exact False.elim q
    | ret u =>
      obtain ⟨v, σ', H', J, rv, q⟩ := hs
      exact fin J rv q
    | next =>
      obtain ⟨σ1, H1, I1, x, dx, fs, hx, hins, hta⟩ := hs
      have KX1 := I1.kIn
      refine ks_wpAt_execs_cons (ks_wpAt_Expr_any ?_ hint hsw)
      refine ks_wpAt_MethodCall (pl := pl) ?_ he
      obtain ⟨mA, O, _⟩ := ins_get I1.hok hins
      obtain ⟨ox, J, _⟩ := O.look
      obtain ⟨oD, hD1, hD2⟩ : ∃ oD, s1.heap.get? C = some oD ∧ oD.data = .cls cd := by
        have hD := hcd
        unfold PySem.W.clsIn at hD
        split at hD
        · rename_i c d cd' sl ho
          cases hD
          exact ⟨_, KX1 _ _ ho, rfl⟩
        · cases hD
      have hxC : x ≠ C := PySem.W.ks_ne KX1 J hcd
      have hN0 : N[0]? = some ar.arg := by
        have z : (ps ++ [("__class__" : Str)])[0]? = some ar.arg := by
          rw [List.getElem?_append_left (List.getElem?_eq_some_iff.mp har).1]
          exact har
        rw [← S.pre, List.getElem?_take_of_lt (by rw [List.length_singleton]; omega)] at z
        exact z
      have hloc0 := S.par _ (List.mem_of_getElem? har)
      refine ks_wpAt_super_base (fd := PySem.W.fnX nm ql params body scope [(("__class__" : Str), cc)] dV kV doc pm an (.ref cda) ct) hks (S.frk _ List.mem_cons_self) (by decide) rfl (KX1 _ _ lk) rfl hhead rfl (KX1 _ _ lcode) rfl hvs2 hfile htop ?_
      obtain ⟨mb, g1, g2⟩ := I1.mod.blt
      refine PySem.W.ks_loadName_global S.kind hks (Calls.loadGlobal_builtin (I1.mod.glob.keeps I1.bk) hmg (g1.keeps I1.bk) ((g2 _ (by decide +kernel)).trans (show bootBuiltins "super" = some (.type "super") by decide +kernel)) ⟨rfl, ?_⟩)
      refine wpAny_loadName_free S.kind (S.frk _ List.mem_cons_self) rfl ⟨_, KX1 _ _ lcell, rfl⟩ ?_
      obtain ⟨m, hns1, hloc1⟩ := I1.loc
      obtain ⟨u, ru, look⟩ := hloc1 0 ar.arg (.ref x) hN0 hx (.inl hloc0)
      obtain rfl : u = Value.ref x := ru
      rcases look with ⟨_, hmx⟩ | ⟨hk, _⟩
      · refine wpAny_loadName_local S.kind hloc0 hns1 hmx ?_
        obtain ⟨hh, g', d', t', os'⟩ := s1
        refine ks_wpAny_isType_cls hD1 hD2 ⟨rfl, ?_⟩
        refine ks_wpAny_call_super hD1 hD2 J.at_ J.cls (fun c e => ?_) (PySem.W.looks_mroIn KX1 D.sub) (fun h' e' k' => ?_)
        · have := J.no
          unfold PySem.W.notCls at this
          rw [e] at this
          exact Bool.noConfusion this
        · have I2 := pin_new (t' := t') I1 k' (Nat.le_refl _) e' (fun v z => nomatch z)
          have KX2 := I2.kIn
          obtain ⟨og, hog, hogc⟩ : ∃ og, h'.get? g = some og ∧ og.cls = .type "function" := by
            have ht' : (K.lookup g).map (·.cls) = some (.type "function") := D.fty
            cases z : K.lookup g with
            | none => rw [z] at ht'; cases ht'
            | some og => rw [z] at ht'; exact ⟨og, KX2 _ _ z, Option.some.inj ht'⟩
          refine ks_wpAny_getMethod_super e' (PySem.W.looks_opaque KX2 D.opq) (l₀ := cd.mro) (fun A Q E s k q => wpAny_bind ((PySem.W.looks_clsIn KX2 hcd) A _ E s k (wpAny_pure q))) rfl KX2 halong hog hogc hxC (by decide) ?_
          have I3 := met_new (g := g) (C := x) I2
          refine callwith_cm I3 (base_none I2 (Nat.le_refl _)) D.fin (thn (ba.run p3 _ _ σ1 H1 _ I3 hta) fun us s3 ⟨ws, H2, I4, rv, q2⟩ => ⟨⟨pin_at I4, I4.kIn⟩, ?_⟩) hst hpl
          refine wpAny_mono (run_cm (G.mono h2) (hr.deeper _) (fun _ _ _ _ _ _ _ z => z.elim) I4 rv q2) (fun u4 s4 ⟨v4, H3, I5, rv4, q3⟩ => ?_) fun _ _ z => z
          refine PySem.wpAt_of_wpAny (thn (b2.run _ s4 σ1 H3 _ I5 q3) fun fl s' hs => ?_)
          cases fl with
          | ret u =>
            obtain ⟨v, σ', H', J, rv, q⟩ := hs
            exact fin J rv q
          | next =>
            obtain ⟨σ', H', J, q⟩ := hs
            exact fin (v := V.non) (u := Value.none) J rfl q
          | brk =>
            obtain ⟨_, _, _, q⟩ := hs
            exact False.elim q
          | cont =>
            obtain ⟨_, _, _, q⟩ := hs
            exact False.elim q
      · have hk : scope.names.lookup ar.arg = some .cell ∨ scope.names.lookup ar.arg = some .free := hk
        rw [hloc0] at hk
        rcases hk with hk | hk <;> cases hk
  rw [← hbd] at key
  exact key
end
end NC
-- M1
set_option linter.all false
/-! Plain mathematics: chains by a relation, least closed relations, lines that lead. -/
namespace NC
section
variable {S : Type}
/-- whom p means by the names, by a relation -/
def Reach (T : S → S → S → Prop) : S → List S → S → Prop
  | p, [], x => x = p
  | p, n :: r, x => ∃ q, T p n q ∧ Reach T q r x
def ReachC (T : S → S → S → Prop) : List S → S → Prop
  | [], _ => False
  | p :: r, x => Reach T p r x
theorem Reach.mono {T U : S → S → S → Prop} (h : ∀ p n x, T p n x → U p n x) : ∀ (r : List S) (p x : S), Reach T p r x → Reach U p r x
  | [], _, _, e => e
  | _ :: r, _, _, ⟨q, a, b⟩ => ⟨q, h _ _ _ a, Reach.mono h r q _ b⟩
theorem ReachC.mono {T U : S → S → S → Prop} (h : ∀ p n x, T p n x → U p n x) : ∀ (c : List S) (x : S), ReachC T c x → ReachC U c x
  | [], _, e => e
  | _ :: _, _, e => Reach.mono h _ _ _ e
theorem Reach.snoc {T : S → S → S → Prop} : ∀ (r : List S) (p n x : S), Reach T p (r ++ [n]) x ↔ ∃ q, Reach T p r q ∧ T q n x
  | [], p, n, x => by
    constructor
    · rintro ⟨q, a, b⟩
      exact ⟨p, rfl, by rw [show x = q from b]; exact a⟩
    · rintro ⟨q, a, b⟩
      exact ⟨x, by rw [← show q = p from a]; exact b, rfl⟩
  | m :: r, p, n, x => by
    constructor
    · rintro ⟨q, a, b⟩
      obtain ⟨z, h1, h2⟩ := (Reach.snoc r q n x).1 b
      exact ⟨z, ⟨q, a, h1⟩, h2⟩
    · rintro ⟨z, ⟨q, a, h1⟩, h2⟩
      exact ⟨q, a, (Reach.snoc r q n x).2 ⟨z, h1, h2⟩⟩
/-- a naming: its index, its person, its name, its chain -/
structure Nam (S : Type) where
  ix : Nat
  who : S
  word : S
  chain : List S
def Closed (ns : List (Nam S)) (T : S → S → S → Prop) : Prop := ∀ n ∈ ns, ∀ x, ReachC T n.chain x → T n.who n.word x
def Lfp (ns : List (Nam S)) (p w x : S) : Prop := ∀ T : S → S → S → Prop, Closed ns T → T p w x
theorem Lfp.closed (ns : List (Nam S)) : Closed ns (Lfp ns) := fun n hn x h T hT =>
  hT n hn x (ReachC.mono (fun _ _ _ z => z T hT) _ _ h)
theorem Lfp.least {ns : List (Nam S)} {T : S → S → S → Prop} (h : Closed ns T) {p w x : S} (e : Lfp ns p w x) : T p w x := e T h
/-- a closed relation below the least one is it -/
theorem Lfp.iff {ns : List (Nam S)} {T : S → S → S → Prop} (h : Closed ns T) (hs : ∀ p w x, T p w x → Lfp ns p w x) (p w x : S) : T p w x ↔ Lfp ns p w x := ⟨hs p w x, fun e => e T h⟩
theorem Lfp.mono {ns ms : List (Nam S)} (h : ∀ n ∈ ns, n ∈ ms) {p w x : S} (e : Lfp ns p w x) : Lfp ms p w x := e (Lfp ms) fun n hn x q => Lfp.closed ms n (h n hn) x q
/-- the least relation speaks of what the namings name, and of persons that stand first in their chains -/
theorem Lfp.says {ns : List (Nam S)} {p w x : S} (e : Lfp ns p w x) : ∃ n ∈ ns, n.who = p ∧ n.word = w :=
  e (fun p w _ => ∃ n ∈ ns, n.who = p ∧ n.word = w) fun n hn _ _ => ⟨n, hn, rfl, rfl⟩
theorem Reach.last {T : S → S → S → Prop} {U : S → Prop} (h : ∀ p n x, T p n x → U x) : ∀ (r : List S) (p x : S), U p → Reach T p r x → U x
  | [], _, _, hp, e => by rw [show _ = _ from e]; exact hp
  | _ :: r, _, _, _, ⟨q, a, b⟩ => Reach.last h r q _ (h _ _ _ a) b
theorem ReachC.last {T : S → S → S → Prop} {U : S → Prop} (h : ∀ p n x, T p n x → U x) : ∀ (c : List S) (x : S), (∀ p r, c = p :: r → U p) → ReachC T c x → U x
  | [], _, _, e => e.elim
  | p :: r, x, hp, e => Reach.last h r p x (hp p r rfl) e
theorem Lfp.heads {ns : List (Nam S)} {U : S → Prop} (h : ∀ n ∈ ns, ∀ p r, n.chain = p :: r → U p) {p w x : S} (e : Lfp ns p w x) : U x :=
  e (fun _ _ x => U x) fun n hn x q => ReachC.last (T := fun _ _ x => U x) (fun _ _ _ z => z) n.chain x (h n hn) q

theorem take_get {A : Type} {l : List A} {n m : Nat} {a : A} : (l.take n)[m]? = some a ↔ m < n ∧ l[m]? = some a := by
  rw [List.getElem?_take]
  by_cases h : m < n
  · rw [if_pos h]
    exact ⟨fun e => ⟨h, e⟩, fun e => e.2⟩
  · rw [if_neg h]
    exact ⟨fun e => (nomatch e), fun e => (h e.1).elim⟩
/-! ### lines -/
structure Line (S : Type) where
  p : S
  n : S
  q : S
  ix : Nat
  at_ : List Nat
/-- places lead from a person by names to a person -/
def Led (ls : List (Line S)) : S → List S → List Nat → S → Prop
  | p, [], [], x => x = p
  | p, n :: r, k :: ks, x => ∃ l, ls[k]? = some l ∧ l.p = p ∧ l.n = n ∧ Led ls l.q r ks x
  | _, _, _, _ => False
def LedC (ls : List (Line S)) : List S → List Nat → S → Prop
  | [], _, _ => False
  | p :: r, ks, x => Led ls p r ks x
/-- the line at a place is right -/
def Right (ns : List (Nam S)) (ls : List (Line S)) (i : Nat) : Prop := ∃ l, ls[i]? = some l ∧ ∃ n ∈ ns, n.ix = l.ix ∧ n.who = l.p ∧ n.word = l.n ∧ LedC (ls.take i) n.chain l.at_ l.q
def AllRight (ns : List (Nam S)) (ls : List (Line S)) : Prop := ∀ i, i < ls.length → Right ns ls i
theorem Led.mono {ls ms : List (Line S)} (h : ∀ (k : Nat) l, ls[k]? = some l → ms[k]? = some l) : ∀ (r : List S) (p : S) (ks : List Nat) (x : S), Led ls p r ks x → Led ms p r ks x
  | [], _, [], _, e => e
  | [], _, _ :: _, _, e => e.elim
  | _ :: _, _, [], _, e => e.elim
  | n :: r, p, k :: ks, x, ⟨l, a, b, c, d⟩ => ⟨l, h k l a, b, c, Led.mono h r l.q ks x d⟩
theorem LedC.mono {ls ms : List (Line S)} (h : ∀ (k : Nat) l, ls[k]? = some l → ms[k]? = some l) : ∀ (c : List S) (ks : List Nat) (x : S), LedC ls c ks x → LedC ms c ks x
  | [], _, _, e => e
  | _ :: _, _, _, e => Led.mono h _ _ _ _ e
theorem Led.len {ls : List (Line S)} : ∀ (r : List S) (p : S) (ks : List Nat) (x : S), Led ls p r ks x → ks.length = r.length
  | [], _, [], _, _ => rfl
  | [], _, _ :: _, _, e => e.elim
  | _ :: _, _, [], _, e => e.elim
  | n :: r, p, k :: ks, x, ⟨l, a, b, c, d⟩ => by rw [List.length_cons, List.length_cons, Led.len r l.q ks x d]
theorem Led.lt {ls : List (Line S)} : ∀ (r : List S) (p : S) (ks : List Nat) (x : S), Led ls p r ks x → ∀ k ∈ ks, k < ls.length
  | [], _, [], _, _ => fun k hk => nomatch hk
  | [], _, _ :: _, _, e => e.elim
  | _ :: _, _, [], _, e => e.elim
  | n :: r, p, k :: ks, x, ⟨l, a, b, c, d⟩ => fun j hj => by
    rcases List.mem_cons.mp hj with rfl | hj
    · exact (List.getElem?_eq_some_iff.mp a).1
    · exact Led.lt r l.q ks x d j hj
theorem LedC.lt {ls : List (Line S)} {c : List S} {ks : List Nat} {x : S} (h : LedC ls c ks x) : ∀ k ∈ ks, k < ls.length := by
  cases c with
  | nil => exact h.elim
  | cons p r => exact Led.lt r p ks x h
/-- one more step at the end -/
theorem Led.snoc {ls : List (Line S)} : ∀ (r : List S) (p n q x : S) (ks : List Nat) (k : Nat) (l : Line S), Led ls p r ks q → ls[k]? = some l → l.p = q → l.n = n → l.q = x → Led ls p (r ++ [n]) (ks ++ [k]) x
  | [], p, n, q, x, [], k, l, e, a, b, c, d => ⟨l, a, by rw [b]; exact e, c, d.symm⟩
  | [], _, _, _, _, _ :: _, _, _, e, _, _, _, _ => e.elim
  | _ :: _, _, _, _, _, [], _, _, e, _, _, _, _ => e.elim
  | m :: r, p, n, q, x, j :: ks, k, l, ⟨l0, a0, b0, c0, d0⟩, a, b, c, d => ⟨l0, a0, b0, c0, Led.snoc r l0.q n q x ks k l d0 a b c d⟩
/-- what right lines say is in the least relation -/
theorem Led.reach {ls : List (Line S)} {T : S → S → S → Prop} (h : ∀ (k : Nat) l, ls[k]? = some l → T l.p l.n l.q) : ∀ (r : List S) (p : S) (ks : List Nat) (x : S), Led ls p r ks x → Reach T p r x
  | [], _, [], _, e => e
  | [], _, _ :: _, _, e => e.elim
  | _ :: _, _, [], _, e => e.elim
  | n :: r, p, k :: ks, x, ⟨l, a, b, c, d⟩ => ⟨l.q, by rw [← b, ← c]; exact h k l a, Led.reach h r l.q ks x d⟩
theorem LedC.reach {ls : List (Line S)} {T : S → S → S → Prop} (h : ∀ (k : Nat) l, ls[k]? = some l → T l.p l.n l.q) : ∀ (c : List S) (ks : List Nat) (x : S), LedC ls c ks x → ReachC T c x
  | [], _, _, e => e
  | _ :: _, _, _, e => Led.reach h _ _ _ _ e
theorem AllRight.sound {ns : List (Nam S)} {ls : List (Line S)} (h : AllRight ns ls) : ∀ (i : Nat) (l : Line S), ls[i]? = some l → Lfp ns l.p l.n l.q := by
  intro i
  induction i using Nat.strongRecOn with
  | _ i ih =>
    intro l hl
    obtain ⟨l', h1, n, hn, _, h3, h4, h5⟩ := h i (List.getElem?_eq_some_iff.mp hl).1
    rw [hl] at h1
    cases h1
    rw [← h3, ← h4]
    refine Lfp.closed ns n hn _ (LedC.reach (fun k l' hk => ?_) _ _ _ h5)
    have hk' := take_get.mp hk
    exact ih k hk'.1 l' hk'.2
theorem Right.snoc {ns : List (Nam S)} {ls : List (Line S)} {l : Line S} {i : Nat} (h : Right ns ls i) : Right ns (ls ++ [l]) i := by
  obtain ⟨l', h1, n, hn, h2, h3, h4, h5⟩ := h
  have hi := (List.getElem?_eq_some_iff.mp h1).1
  refine ⟨l', by rw [List.getElem?_append_left hi]; exact h1, n, hn, h2, h3, h4, ?_⟩
  rw [List.take_append_of_le_length (Nat.le_of_lt hi)]
  exact h5
theorem AllRight.snoc {ns : List (Nam S)} {ls : List (Line S)} {l : Line S} (h : AllRight ns ls) {n : Nam S} (hn : n ∈ ns) (h2 : n.ix = l.ix) (h3 : n.who = l.p) (h4 : n.word = l.n) (h5 : LedC ls n.chain l.at_ l.q) : AllRight ns (ls ++ [l]) := by
  intro i hi
  rw [List.length_append, List.length_singleton] at hi
  by_cases e : i < ls.length
  · exact (h i e).snoc
  · have e' : i = ls.length := by omega
    subst e'
    refine ⟨l, by simp, n, hn, h2, h3, h4, ?_⟩
    rw [List.take_append_of_le_length (Nat.le_refl _), List.take_length]
    exact h5
/-- right lines stay right where there are more namings -/
theorem AllRight.more {ns ms : List (Nam S)} {ls : List (Line S)} (h : AllRight ns ls) (hm : ∀ n ∈ ns, n ∈ ms) : AllRight ms ls := fun i hi => by
  obtain ⟨l, h1, n, hn, h2⟩ := h i hi
  exact ⟨l, h1, n, hm n hn, h2⟩

/-! ### lines that are used, renumbered -/
/-- the lines at the places us, their places renumbered -/
def renum (us : List Nat) (k : Nat) : Nat := us.idxOf k
def kept (ls : List (Line S)) (us : List Nat) : List (Line S) := us.filterMap fun u => (ls[u]?).map fun l => { l with at_ := l.at_.map (renum us) }
theorem kept_eq (ls : List (Line S)) (us0 : List Nat) : ∀ (us : List Nat), (∀ u ∈ us, u < ls.length) → ∀ (i : Nat) (u : Nat), us[i]? = some u →
    (us.filterMap fun u => (ls[u]?).map fun l => ({ l with at_ := l.at_.map (renum us0) } : Line S))[i]? = (ls[u]?).map fun l => ({ l with at_ := l.at_.map (renum us0) } : Line S)
  | [], _, i, u, e => by simp at e
  | v :: us, h, i, u, e => by
    have hv : v < ls.length := h v List.mem_cons_self
    have e1 : ls[v]? = some ls[v] := List.getElem?_eq_getElem hv
    rw [List.filterMap_cons, e1]
    cases i with
    | zero =>
      simp at e
      subst e
      rw [e1]
      rfl
    | succ i =>
      simp only [Option.map_some, List.getElem?_cons_succ]
      exact kept_eq ls us0 us (fun u hu => h u (List.mem_cons_of_mem _ hu)) i u (by simpa using e)
theorem kept_len (ls : List (Line S)) (us0 : List Nat) : ∀ (us : List Nat), (∀ u ∈ us, u < ls.length) →
    (us.filterMap fun u => (ls[u]?).map fun l => ({ l with at_ := l.at_.map (renum us0) } : Line S)).length = us.length
  | [], _ => rfl
  | v :: us, h => by
    have hv : v < ls.length := h v List.mem_cons_self
    have e1 : ls[v]? = some ls[v] := List.getElem?_eq_getElem hv
    rw [List.filterMap_cons, e1]
    simp only [Option.map_some, List.length_cons]
    rw [kept_len ls us0 us (fun u hu => h u (List.mem_cons_of_mem _ hu))]
theorem renum_at {us : List Nat} {k : Nat} (h : k ∈ us) : us[renum us k]? = some k := by
  unfold renum
  rw [List.getElem?_eq_getElem (List.idxOf_lt_length_of_mem h), List.getElem_idxOf]
theorem renum_lt {us : List Nat} (hs : us.Pairwise (· < ·)) {j k : Nat} (hj : j ∈ us) (hk : k ∈ us) (h : j < k) : renum us j < renum us k := by
  have a := renum_at hj
  have b := renum_at hk
  have la := (List.getElem?_eq_some_iff.mp a)
  have lb := (List.getElem?_eq_some_iff.mp b)
  obtain ⟨la, ea⟩ := la
  obtain ⟨lb, eb⟩ := lb
  by_cases c : renum us j < renum us k
  · exact c
  · exfalso
    by_cases d : renum us j = renum us k
    · rw [d, b] at a
      cases a
      exact Nat.lt_irrefl _ h
    · have := List.pairwise_iff_getElem.mp hs (renum us k) (renum us j) lb la (by omega)
      rw [ea, eb] at this
      omega
theorem Led.renum {ls : List (Line S)} {us : List Nat} (hb : ∀ u ∈ us, u < ls.length) (hs : us.Pairwise (· < ·)) {m : Nat} (hm : m ∈ us ∨ m = ls.length) :
    ∀ (r : List S) (p : S) (ks : List Nat) (x : S), (∀ k ∈ ks, k ∈ us) → Led (ls.take m) p r ks x → Led ((kept ls us).take (if m = ls.length then us.length else NC.renum us m)) p r (ks.map (NC.renum us)) x
  | [], _, [], _, _, e => e
  | [], _, _ :: _, _, _, e => e.elim
  | _ :: _, _, [], _, _, e => e.elim
  | n :: r, p, k :: ks, x, hk, ⟨l, a, b, c, d⟩ => by
    have hku := hk k List.mem_cons_self
    have ha := take_get.mp a
    refine ⟨{ l with at_ := l.at_.map (NC.renum us) }, ?_, b, c, Led.renum hb hs hm r l.q ks x (fun j hj => hk j (List.mem_cons_of_mem _ hj)) d⟩
    rw [take_get]
    have q := kept_eq ls us us hb (NC.renum us k) k (renum_at hku)
    rw [ha.2] at q
    refine ⟨?_, q⟩
    split
    · exact (List.getElem?_eq_some_iff.mp (renum_at hku)).1
    · rename_i hne
      rcases hm with hm | hm
      · exact renum_lt hs hku hm ha.1
      · exact (hne hm).elim
theorem kept_right {ns : List (Nam S)} {ls : List (Line S)} {us : List Nat} (h : AllRight ns ls) (hb : ∀ u ∈ us, u < ls.length) (hs : us.Pairwise (· < ·))
    (hc : ∀ u ∈ us, ∀ l, ls[u]? = some l → ∀ k ∈ l.at_, k ∈ us) : AllRight ns (kept ls us) := by
  intro i hi
  unfold kept at hi
  rw [kept_len ls us us hb] at hi
  have hu : us[i]? = some us[i] := List.getElem?_eq_getElem hi
  have hmem : us[i] ∈ us := List.getElem_mem hi
  obtain ⟨l, h1, n, hn, h2, h3, h4, h5⟩ := h _ (hb _ hmem)
  have q := kept_eq ls us us hb i _ hu
  rw [h1] at q
  refine ⟨_, q, n, hn, h2, h3, h4, ?_⟩
  have hnl : us[i] ≠ ls.length := Nat.ne_of_lt (hb _ hmem)
  have hi2 : NC.renum us us[i] = i := by
    have a := renum_at hmem
    obtain ⟨la, ea⟩ := List.getElem?_eq_some_iff.mp a
    by_cases c : NC.renum us us[i] = i
    · exact c
    · exfalso
      rcases Nat.lt_or_gt_of_ne c with c | c
      · have := List.pairwise_iff_getElem.mp hs _ _ la hi c
        omega
      · have := List.pairwise_iff_getElem.mp hs _ _ hi la c
        omega
  show LedC _ _ (l.at_.map (NC.renum us)) l.q
  cases e : n.chain with
  | nil => rw [e] at h5; exact h5.elim
  | cons p r =>
    rw [e] at h5
    have z := Led.renum hb hs (m := us[i]) (.inl hmem) r p l.at_ l.q (hc _ hmem l h1) h5
    rw [if_neg hnl, hi2] at z
    exact z
theorem kept_led {ls : List (Line S)} {us : List Nat} (hb : ∀ u ∈ us, u < ls.length) (hs : us.Pairwise (· < ·)) {c : List S} {ks : List Nat} {x : S} (hk : ∀ k ∈ ks, k ∈ us) (h : LedC ls c ks x) : LedC (kept ls us) c (ks.map (renum us)) x := by
  cases c with
  | nil => exact h.elim
  | cons p r =>
    have z := Led.renum hb hs (m := ls.length) (.inr rfl) r p ks x hk (by rw [List.take_length]; exact h)
    rw [if_pos rfl] at z
    exact Led.mono (fun k l e => (take_get.mp e).2) _ _ _ _ z
end
end NC
-- NcData
set_option Elab.async false
set_option linter.all false
set_option maxRecDepth 100000
set_option maxHeartbeats 4000000
/-! Data with a Lean type (KE.Datum) over the abstract heap; ==, !=, in, not in, < by the Lean values. -/
namespace NC
open PySem PySem.Spec PyProof.Rows L2 PySem.W
/-- v holds x -/
def Hd {α : Type} [DecidableEq α] [Datum α] (K : PySem.W.Frag) (H : Hp) (v : V) (x : α) : Prop := Dp K H v (Datum.toD x)
def HdAll {α : Type} [DecidableEq α] [Datum α] (K : PySem.W.Frag) (H : Hp) (vs : List V) (xs : List α) : Prop := DpAll K H vs (xs.map Datum.toD)
section
variable {K : PySem.W.Frag} {H H' : Hp} {p : Addr}
mutual
theorem dp_same (s : Same H H') : ∀ (d : PyData) (v : V), Dp K H v d → Dp K H' v d
  | .none, _, h => by cases h; exact .non
  | .bool b, _, h => by cases h; exact .bl b
  | .int i, _, h => by cases h; exact .int i
  | .str x, _, h => by cases h; exact .str x
  | .list ds, _, h => by
    cases h with
    | lst h1 h2 => exact .lst (sq_l s h1) (dp_sameAll s ds _ h2)
  | .tuple ds, _, h => by
    cases h with
    | tup h1 h2 => exact .tup (sq_t s h1) (dp_sameAll s ds _ h2)
  | .dict _, _, h => by cases h
theorem dp_sameAll (s : Same H H') : ∀ (ds : List PyData) (vs : List V), DpAll K H vs ds → DpAll K H' vs ds
  | [], _, h => by cases h; exact .nil
  | d :: ds, _, h => by
    cases h with
    | cons h1 h2 => exact .cons (dp_same s d _ h1) (dp_sameAll s ds _ h2)
end
mutual
/-- a dict, a set, an instance is written: data stay -/
theorem dp_but (w : But p H H') (hp : ∀ xs, ¬ (H p = some (.lst xs) ∨ (∃ o, H p = some (.frz o (.lst xs))) ∨ H p = some (.tup xs) ∨ ∃ o, H p = some (.frz o (.tup xs)))) : ∀ (d : PyData) (v : V), Dp K H v d → Dp K H' v d
  | .none, _, h => by cases h; exact .non
  | .bool b, _, h => by cases h; exact .bl b
  | .int i, _, h => by cases h; exact .int i
  | .str x, _, h => by cases h; exact .str x
  | .list ds, _, h => by
    cases h with
    | @lst a xs _ h1 h2 =>
      refine .lst ?_ (dp_butAll w hp ds _ h2)
      rcases h1 with (h1 | ⟨o, h1⟩) | h1
      · exact .inl (.inl (w _ _ (fun z => hp xs (.inl (z ▸ h1))) h1))
      · exact .inl (.inr ⟨o, w _ _ (fun z => hp xs (.inr (.inl ⟨o, z ▸ h1⟩))) h1⟩)
      · exact .inr h1
  | .tuple ds, _, h => by
    cases h with
    | @tup a xs _ h1 h2 =>
      refine .tup ?_ (dp_butAll w hp ds _ h2)
      rcases h1 with (h1 | ⟨o, h1⟩) | h1
      · exact .inl (.inl (w _ _ (fun z => hp xs (.inr (.inr (.inl (z ▸ h1))))) h1))
      · exact .inl (.inr ⟨o, w _ _ (fun z => hp xs (.inr (.inr (.inr ⟨o, z ▸ h1⟩)))) h1⟩)
      · exact .inr h1
  | .dict _, _, h => by cases h
theorem dp_butAll (w : But p H H') (hp : ∀ xs, ¬ (H p = some (.lst xs) ∨ (∃ o, H p = some (.frz o (.lst xs))) ∨ H p = some (.tup xs) ∨ ∃ o, H p = some (.frz o (.tup xs)))) : ∀ (ds : List PyData) (vs : List V), DpAll K H vs ds → DpAll K H' vs ds
  | [], _, h => by cases h; exact .nil
  | d :: ds, _, h => by
    cases h with
    | cons h1 h2 => exact .cons (dp_but w hp d _ h1) (dp_butAll w hp ds _ h2)
end
/-- what is no list and no tuple -/
def NoSeq (o : HO) : Bool := match o with
  | .lst _ => false
  | .tup _ => false
  | .frz _ _ => false
  | _ => true
theorem noSeq_of {o : HO} (hp : H p = some o) (ho : NoSeq o = true) : ∀ xs, ¬ (H p = some (.lst xs) ∨ (∃ o, H p = some (.frz o (.lst xs))) ∨ H p = some (.tup xs) ∨ ∃ o, H p = some (.frz o (.tup xs))) := by
  intro xs z
  rw [hp] at z
  rcases z with z | ⟨u, z⟩ | z | ⟨u, z⟩ <;> (cases z; cases ho)
section
variable {α : Type} [DecidableEq α] [Datum α] {v : V} {x : α}
theorem Hd.same (s : Same H H') (h : Hd K H v x) : Hd K H' v x := dp_same s _ _ h
theorem Hd.but {o : HO} (w : But p H H') (hp : H p = some o) (ho : NoSeq o = true) (h : Hd K H v x) : Hd K H' v x := dp_but w (noSeq_of hp ho) _ _ h
theorem HdAll.same {vs : List V} {xs : List α} (s : Same H H') (h : HdAll K H vs xs) : HdAll K H' vs xs := dp_sameAll s _ _ h
theorem HdAll.but {o : HO} {vs : List V} {xs : List α} (w : But p H H') (hp : H p = some o) (ho : NoSeq o = true) (h : HdAll K H vs xs) : HdAll K H' vs xs := dp_butAll w (noSeq_of hp ho) _ _ h
theorem hd_int (i : Int) : Hd K H (.int i) i := .int i
theorem hd_str (z : Str) : Hd K H (.str z) z := .str z
theorem hd_tup {a : Addr} {vs : List V} {xs : List α} (h : SqT K H a vs) (hs : HdAll K H vs xs) : Hd K H (.ref a) (Tup.mk xs) := .tup h hs
theorem hd_lst {a : Addr} {vs : List V} {xs : List α} (h : SqL K H a vs) (hs : HdAll K H vs xs) : Hd K H (.ref a) xs := .lst h hs
theorem hd_pair {β : Type} [DecidableEq β] [Datum β] {a : Addr} {v u : V} {y : β} (h : SqT K H a [v, u]) (hx : Hd K H v x) (hy : Hd K H u y) : Hd K H (.ref a) (x, y) := .tup h (.cons hx (.cons hy .nil))
theorem hdAll_nil : HdAll K H [] ([] : List α) := .nil
theorem hdAll_cons {vs : List V} {xs : List α} (h : Hd K H v x) (hs : HdAll K H vs xs) : HdAll K H (v :: vs) (x :: xs) := .cons h hs
theorem hdAll_len : ∀ {vs : List V} {xs : List α}, HdAll K H vs xs → vs.length = xs.length
  | [], [], _ => rfl
  | [], _ :: _, h => by cases h
  | _ :: _, [], h => by cases h
  | _ :: vs, _ :: xs, h => by
    cases h with
    | cons _ h2 => rw [List.length_cons, List.length_cons, hdAll_len (vs := vs) (xs := xs) h2]
theorem hdAll_app : ∀ {vs us : List V} {xs ys : List α}, HdAll K H vs xs → HdAll K H us ys → HdAll K H (vs ++ us) (xs ++ ys)
  | [], _, [], _, _, h => h
  | [], _, _ :: _, _, h, _ => by cases h
  | _ :: _, _, [], _, h, _ => by cases h
  | _ :: vs, _, _ :: xs, _, h, k => by
    cases h with
    | cons h1 h2 => exact .cons h1 (hdAll_app (vs := vs) (xs := xs) h2 k)
theorem hdAll_at : ∀ {vs : List V} {xs : List α} {i : Nat} {v : V}, HdAll K H vs xs → vs[i]? = some v → ∃ x, xs[i]? = some x ∧ Hd K H v x
  | [], _, _, _, _, e => by simp at e
  | _ :: _, [], _, _, h, _ => by cases h
  | _ :: vs, x :: xs, i, _, h, e => by
    cases h with
    | cons h1 h2 =>
      cases i with
      | zero =>
        simp at e
        subst e
        exact ⟨x, by simp, h1⟩
      | succ i =>
        obtain ⟨y, e1, e2⟩ := hdAll_at (vs := vs) (xs := xs) (i := i) h2 (by simpa using e)
        exact ⟨y, by simpa using e1, e2⟩
theorem hdAll_has : ∀ {vs : List V} {xs : List α} {i : Nat} {x : α}, HdAll K H vs xs → xs[i]? = some x → ∃ v, vs[i]? = some v ∧ Hd K H v x := fun {vs xs i x} h e => by
  have hl := hdAll_len h
  have hi : i < vs.length := by rw [hl]; exact (List.getElem?_eq_some_iff.mp e).1
  obtain ⟨y, e1, e2⟩ := hdAll_at h (List.getElem?_eq_getElem hi)
  rw [e] at e1
  cases e1
  exact ⟨_, List.getElem?_eq_getElem hi, e2⟩
theorem hdAll_ints : ∀ ns : List Int, HdAll K H (ns.map V.int) ns
  | [] => .nil
  | n :: ns => .cons (.int n) (hdAll_ints ns)
theorem hdAll_strs : ∀ zs : List Str, HdAll K H (zs.map V.str) zs
  | [] => .nil
  | z :: zs => .cons (.str z) (hdAll_strs zs)
theorem hd_ints {a : Addr} {ns : List Int} (h : SqL K H a (ns.map V.int)) : Hd K H (.ref a) ns := hd_lst h (hdAll_ints ns)
theorem hd_strs {a : Addr} {zs : List Str} (h : SqL K H a (zs.map V.str)) : Hd K H (.ref a) zs := hd_lst h (hdAll_strs zs)
theorem hd_strsT {a : Addr} {zs : List Str} (h : SqT K H a (zs.map V.str)) : Hd K H (.ref a) (Tup.mk zs) := hd_tup h (hdAll_strs zs)
end
end
/-! ### operators -/
section
variable {X : Cx} {α : Type} [DecidableEq α] [Datum α]
theorem hd_holds {pins : List (Addr × Obj)} {σ : L2.St} {H : Hp} {s : Shared} {x : α} {v : V} {u : Value} (I : Inv X pins σ H s) (h : Hd X.K H v x) (r : RelV v u) : Holds s.heap u x := Dp.reads I _ v u h r
theorem hdAll_holds {pins : List (Addr × Obj)} {σ : L2.St} {H : Hp} {s : Shared} {xs : List α} {vs : List V} {us : List Value} (I : Inv X pins σ H s) (h : HdAll X.K H vs xs) (r : Vals vs us) : HoldAll s.heap us xs := Dp.readsAll I _ vs us h r
def rEqT (K : PySem.W.Frag) (α : Type) [DecidableEq α] [Datum α] : R2 := fun x y H Q => ∃ a b : α, Hd K H x a ∧ Hd K H y b ∧ Q (.bl (decide (a = b))) H
def rNeT (K : PySem.W.Frag) (α : Type) [DecidableEq α] [Datum α] : R2 := fun x y H Q => ∃ a b : α, Hd K H x a ∧ Hd K H y b ∧ Q (.bl (decide (a ≠ b))) H
theorem room_d {A : Around} (hu : A.units + 64 < cLine) {k : Nat} (h : k ≤ 60) : A.units + 1 + k < cLine := by omega
theorem op_eqT (hu : X.A.units + 64 < cLine) (hd : Datum.depth α ≤ 60 := by decide) : OpR X (compareOp .Eq) (rEqT X.K α) := by
  intro pins s σ H x y v u Q I rx ry h
  obtain ⟨a, b, ha, hb, q⟩ := h
  exact eq_datum (hd_holds I ha rx) (hd_holds I hb ry) (Nat.lt_of_le_of_lt (Nat.le_of_lt_succ (by omega)) (room_d hu hd)) ⟨.bl _, H, I, rfl, q⟩
theorem op_neT (hu : X.A.units + 64 < cLine) (hd : Datum.depth α ≤ 60 := by decide) : OpR X (compareOp .NotEq) (rNeT X.K α) := by
  intro pins s σ H x y v u Q I rx ry h
  obtain ⟨a, b, ha, hb, q⟩ := h
  exact ne_datum (hd_holds I ha rx) (hd_holds I hb ry) (Nat.lt_of_le_of_lt (Nat.le_of_lt_succ (by omega)) (room_d hu hd)) ⟨.bl _, H, I, rfl, q⟩
/-- in, not in: a list | a tuple of such data -/
def rInT (K : PySem.W.Frag) (α : Type) [DecidableEq α] [Datum α] (neg : Bool) : R2 := fun x y H Q => ∃ (a : Addr) (vs : List V) (z : α) (xs : List α), y = .ref a ∧ (SqL K H a vs ∨ SqT K H a vs) ∧ HdAll K H vs xs ∧ Hd K H x z ∧ Q (.bl (if neg = true then decide (z ∉ xs) else decide (z ∈ xs))) H
theorem op_inT (hu : X.A.units + 64 < cLine) (hd : Datum.depth α ≤ 60 := by decide) : OpR X (compareOp .In) (rInT X.K α false) := by
  intro pins s σ H x y v u Q I rx ry h
  obtain ⟨a, vs, z, xs, rfl, hs, hx, hz, q⟩ := h
  cases ry
  have hu2 := room_d hu hd
  rcases hs with hs | hs
  · obtain ⟨its, rv, pl, _⟩ := I.list hs
    exact in_list_datum pl.isList (by simpa using hdAll_holds I hx rv) (hd_holds I hz rx) hu2 ⟨.bl _, H, I, rfl, q⟩
  · obtain ⟨its, rv, pl, _⟩ := I.tuple hs
    exact in_tuple_datum pl (by simpa using hdAll_holds I hx rv) (hd_holds I hz rx) hu2 ⟨.bl _, H, I, rfl, q⟩
theorem op_notInT (hu : X.A.units + 64 < cLine) (hd : Datum.depth α ≤ 60 := by decide) : OpR X (compareOp .NotIn) (rInT X.K α true) := by
  intro pins s σ H x y v u Q I rx ry h
  obtain ⟨a, vs, z, xs, rfl, hs, hx, hz, q⟩ := h
  cases ry
  have hu2 := room_d hu hd
  rcases hs with hs | hs
  · obtain ⟨its, rv, pl, _⟩ := I.list hs
    exact notIn_list_datum pl.isList (by simpa using hdAll_holds I hx rv) (hd_holds I hz rx) hu2 ⟨.bl _, H, I, rfl, q⟩
  · obtain ⟨its, rv, pl, _⟩ := I.tuple hs
    exact notIn_tuple_datum pl (by simpa using hdAll_holds I hx rv) (hd_holds I hz rx) hu2 ⟨.bl _, H, I, rfl, q⟩
end
section
variable {X : Cx} {α : Type} [DecidableEq α] [DatumOrd α]
def rLtT (K : PySem.W.Frag) (α : Type) [DecidableEq α] [DatumOrd α] : R2 := fun x y H Q => ∃ a b : α, Hd K H x a ∧ Hd K H y b ∧ Q (.bl (DatumOrd.lt a b)) H
theorem op_ltT (hu : X.A.units + 64 < cLine) (hd : Datum.depth α ≤ 60 := by decide) : OpR X (compareOp .Lt) (rLtT X.K α) := by
  intro pins s σ H x y v u Q I rx ry h
  obtain ⟨a, b, ha, hb, q⟩ := h
  exact lt_datum (hd_holds I ha rx) (hd_holds I hb ry) (Nat.lt_of_le_of_lt (Nat.le_of_lt_succ (by omega)) (room_d hu hd)) ⟨.bl _, H, I, rfl, q⟩
end
end NC
-- NcPlain
set_option Elab.async false
set_option linter.all false
set_option maxRecDepth 100000
set_option maxHeartbeats 4000000
/-! The law's plain statements and the program's facts as data with Lean types. -/
namespace NC
open PySem PySem.Spec PyProof.Rows L2 PySem.W
/-- a subject: a chain, or k and chains -/
inductive Subj where
  | one (c : List Str)
  | some (k : Int) (cs : List (List Str))
  deriving DecidableEq
inductive Plain where
  | nam (who word : Str) (chain : List Str) (b e : Int)
  | lev (who : Str) (goal : Subj) (t1 t2 b e : Int) (often : Option Int)
  deriving DecidableEq
def dChain (c : List Str) : PyData := .tuple (c.map PyData.str)
def dPair (a b : Int) : PyData := .tuple [.int a, .int b]
def dSubj : Subj → PyData
  | .one c => dChain c
  | .some k cs => .tuple [.int k, .tuple (cs.map dChain)]
def dOpt : Option Int → PyData
  | none => .none
  | some i => .int i
/-- as the law writes it -/
def dPlain : Plain → PyData
  | .nam who word c b e => .tuple [.str "n", .str who, .str word, dChain c, dPair b e]
  | .lev who g t1 t2 b e o => .tuple [.str "l", .str who, dSubj g, dPair t1 t2, dPair b e, dOpt o]
/-- as the program's facts tell it -/
def dFact : Plain → PyData
  | .nam who word c b e => .tuple [.str "naming", .str who, .str word, dChain c, dPair b e]
  | .lev who g t1 t2 b e o => .tuple [.str "leave", .str who, dSubj g, dPair t1 t2, dPair b e, dOpt o]
theorem strs_map (c : List Str) : c.map PyData.str = c.map (Datum.toD (α := Str)) := rfl
theorem plain_strs (c : List Str) : PyData.plainAll (c.map PyData.str) = true := plainAll_map (α := Str) c
theorem plain_chain (c : List Str) : (dChain c).plain = true := by
  unfold dChain
  simp only [PyData.plain]
  exact plain_strs c
theorem plain_chains : ∀ cs : List (List Str), PyData.plainAll (cs.map dChain) = true
  | [] => rfl
  | c :: cs => by
    rw [List.map_cons, PyData.plainAll, plain_chain c, plain_chains cs]
    rfl
theorem plain_subj : ∀ g, (dSubj g).plain = true
  | .one c => plain_chain c
  | .some k cs => by
    simp only [dSubj, PyData.plain, PyData.plainAll, plain_chains cs, Bool.and_self]
theorem plain_opt : ∀ o, (dOpt o).plain = true
  | none => rfl
  | some _ => rfl
theorem plain_pair (a b : Int) : (dPair a b).plain = true := rfl
theorem plain_plain : ∀ p, (dPlain p).plain = true
  | .nam who word c b e => by simp only [dPlain, PyData.plain, PyData.plainAll, plain_chain, plain_pair, Bool.and_self]
  | .lev who g t1 t2 b e o => by simp only [dPlain, PyData.plain, PyData.plainAll, plain_subj, plain_pair, plain_opt, Bool.and_self]
theorem plain_fact : ∀ p, (dFact p).plain = true
  | .nam who word c b e => by simp only [dFact, PyData.plain, PyData.plainAll, plain_chain, plain_pair, Bool.and_self]
  | .lev who g t1 t2 b e o => by simp only [dFact, PyData.plain, PyData.plainAll, plain_subj, plain_pair, plain_opt, Bool.and_self]
theorem eqv_chain (c d : List Str) : PyData.eqv (dChain c) (dChain d) = decide (c = d) := by
  unfold dChain
  simp only [PyData.eqv]
  exact eqvAll_map (α := Str) c d
theorem eqv_chains : ∀ cs ds : List (List Str), PyData.eqvAll (cs.map dChain) (ds.map dChain) = decide (cs = ds)
  | [], [] => by simp [PyData.eqvAll]
  | [], _ :: _ => by simp [PyData.eqvAll]
  | _ :: _, [] => by simp [PyData.eqvAll]
  | c :: cs, d :: ds => by
    rw [List.map_cons, List.map_cons, PyData.eqvAll, eqv_chain, eqv_chains cs ds, ← Bool.decide_and]
    exact decide_eq_decide.mpr (by rw [List.cons.injEq])
theorem eqv_int (a b : Int) : PyData.eqv (.int a) (.int b) = decide (a = b) := by
  simp only [PyData.eqv]
  exact beq_decide a b
theorem eqv_str (a b : Str) : PyData.eqv (.str a) (.str b) = decide (a = b) := by
  simp only [PyData.eqv]
  exact beq_decide a b
theorem eqv_pair (a b c d : Int) : PyData.eqv (dPair a b) (dPair c d) = (decide (a = c) && decide (b = d)) := by
  simp only [dPair, PyData.eqv, PyData.eqvAll, beq_decide, Bool.and_true]
theorem eqv_opt : ∀ a b, PyData.eqv (dOpt a) (dOpt b) = decide (a = b)
  | none, none => by simp [dOpt, PyData.eqv]
  | none, some _ => by simp [dOpt, PyData.eqv]
  | some _, none => by simp [dOpt, PyData.eqv]
  | some a, some b => by
    rw [show dOpt (some a) = .int a from rfl, show dOpt (some b) = .int b from rfl, eqv_int]
    exact decide_eq_decide.mpr ⟨fun e => by rw [e], fun e => by injection e⟩
theorem eqv_subj : ∀ a b, PyData.eqv (dSubj a) (dSubj b) = decide (a = b)
  | .one c, .one d => by
    rw [show dSubj (.one c) = dChain c from rfl, show dSubj (.one d) = dChain d from rfl, eqv_chain]
    exact decide_eq_decide.mpr ⟨fun e => by rw [e], fun e => by injection e⟩
  | .some k cs, .some l ds => by
    simp only [dSubj, PyData.eqv, PyData.eqvAll, eqv_chains, beq_decide, Bool.and_true, ← Bool.decide_and]
    exact decide_eq_decide.mpr ⟨fun ⟨e1, e2⟩ => by rw [e1, e2], fun e => by injection e with e1 e2; exact ⟨e1, e2⟩⟩
  | .one c, .some l ds => by
    rw [show decide (Subj.one c = Subj.some l ds) = false from decide_eq_false (fun z => nomatch z)]
    cases c with
    | nil => simp [dSubj, dChain, PyData.eqv, PyData.eqvAll]
    | cons x c => simp [dSubj, dChain, PyData.eqv, PyData.eqvAll]
  | .some l ds, .one c => by
    rw [show decide (Subj.some l ds = Subj.one c) = false from decide_eq_false (fun z => nomatch z)]
    cases c with
    | nil => simp [dSubj, dChain, PyData.eqv, PyData.eqvAll]
    | cons x c => simp [dSubj, dChain, PyData.eqv, PyData.eqvAll]
theorem eqv_head {x y : PyData} {xs ys : List PyData} (h : PyData.eqv x y = false) : PyData.eqv (.tuple (x :: xs)) (.tuple (y :: ys)) = false := by
  simp only [PyData.eqv]
  rw [PyData.eqvAll, h]
  rfl
theorem eqv_str_ne {a b : Str} (h : a ≠ b) : PyData.eqv (.str a) (.str b) = false := by
  rw [eqv_str]
  exact decide_eq_false h
theorem eqv_plain : ∀ a b, PyData.eqv (dPlain a) (dPlain b) = decide (a = b)
  | .nam w1 n1 c1 b1 e1, .nam w2 n2 c2 b2 e2 => by
    simp only [dPlain, PyData.eqv, PyData.eqvAll, eqv_chain, eqv_pair, beq_decide, Bool.and_true, ← Bool.decide_and, true_and, decide_true, Bool.true_and]
    exact decide_eq_decide.mpr ⟨fun ⟨h1, h2, h3, h4, h5⟩ => by rw [h1, h2, h3, h4, h5], fun e => by injection e with h1 h2 h3 h4 h5; exact ⟨h1, h2, h3, h4, h5⟩⟩
  | .lev w1 g1 s1 t1 b1 e1 o1, .lev w2 g2 s2 t2 b2 e2 o2 => by
    simp only [dPlain, PyData.eqv, PyData.eqvAll, eqv_subj, eqv_pair, eqv_opt, beq_decide, Bool.and_true, ← Bool.decide_and, true_and, decide_true, Bool.true_and]
    exact decide_eq_decide.mpr ⟨fun ⟨h1, h2, ⟨h3, h4⟩, ⟨h5, h6⟩, h7⟩ => by rw [h1, h2, h3, h4, h5, h6, h7], fun e => by injection e with h1 h2 h3 h4 h5 h6 h7; exact ⟨h1, h2, ⟨h3, h4⟩, ⟨h5, h6⟩, h7⟩⟩
  | .nam .., .lev .. => by
    rw [decide_eq_false (fun z => nomatch z)]
    exact eqv_head (eqv_str_ne (by decide +kernel))
  | .lev .., .nam .. => by
    rw [decide_eq_false (fun z => nomatch z)]
    exact eqv_head (eqv_str_ne (by decide +kernel))
theorem eqv_fact : ∀ a b, PyData.eqv (dFact a) (dFact b) = decide (a = b)
  | .nam w1 n1 c1 b1 e1, .nam w2 n2 c2 b2 e2 => by
    simp only [dFact, PyData.eqv, PyData.eqvAll, eqv_chain, eqv_pair, beq_decide, Bool.and_true, ← Bool.decide_and, true_and, decide_true, Bool.true_and]
    exact decide_eq_decide.mpr ⟨fun ⟨h1, h2, h3, h4, h5⟩ => by rw [h1, h2, h3, h4, h5], fun e => by injection e with h1 h2 h3 h4 h5; exact ⟨h1, h2, h3, h4, h5⟩⟩
  | .lev w1 g1 s1 t1 b1 e1 o1, .lev w2 g2 s2 t2 b2 e2 o2 => by
    simp only [dFact, PyData.eqv, PyData.eqvAll, eqv_subj, eqv_pair, eqv_opt, beq_decide, Bool.and_true, ← Bool.decide_and, true_and, decide_true, Bool.true_and]
    exact decide_eq_decide.mpr ⟨fun ⟨h1, h2, ⟨h3, h4⟩, ⟨h5, h6⟩, h7⟩ => by rw [h1, h2, h3, h4, h5, h6, h7], fun e => by injection e with h1 h2 h3 h4 h5 h6 h7; exact ⟨h1, h2, ⟨h3, h4⟩, ⟨h5, h6⟩, h7⟩⟩
  | .nam .., .lev .. => by
    rw [decide_eq_false (fun z => nomatch z)]
    exact eqv_head (eqv_str_ne (by decide +kernel))
  | .lev .., .nam .. => by
    rw [decide_eq_false (fun z => nomatch z)]
    exact eqv_head (eqv_str_ne (by decide +kernel))
theorem depth_chain (c : List Str) : (dChain c).depth ≤ 1 := by
  unfold dChain
  simp only [PyData.depth]
  exact Nat.succ_le_succ (depthAll_map (α := Str) c)
theorem depth_chains : ∀ cs : List (List Str), PyData.depthAll (cs.map dChain) ≤ 1
  | [] => Nat.zero_le _
  | c :: cs => by
    rw [List.map_cons, PyData.depthAll]
    exact Nat.max_le.mpr ⟨depth_chain c, depth_chains cs⟩
theorem depth_subj : ∀ g, (dSubj g).depth ≤ 3
  | .one c => Nat.le_trans (depth_chain c) (by decide)
  | .some k cs => by
    have := depth_chains cs
    simp only [dSubj, PyData.depth, PyData.depthAll]
    omega
theorem depth_opt : ∀ o, (dOpt o).depth ≤ 0
  | none => Nat.le_refl _
  | some _ => Nat.le_refl _
theorem depth_pair (a b : Int) : (dPair a b).depth ≤ 1 := Nat.le_refl _
theorem depth_plain : ∀ p, (dPlain p).depth ≤ 4
  | .nam who word c b e => by
    have h1 := depth_chain c
    have h2 := depth_pair b e
    simp only [dPlain, PyData.depth, PyData.depthAll]
    omega
  | .lev who g t1 t2 b e o => by
    have h1 := depth_subj g
    have h2 := depth_pair b e
    have h3 := depth_pair t1 t2
    have h4 := depth_opt o
    simp only [dPlain, PyData.depth, PyData.depthAll]
    omega
theorem depth_fact : ∀ p, (dFact p).depth ≤ 4
  | .nam who word c b e => by
    have h1 := depth_chain c
    have h2 := depth_pair b e
    simp only [dFact, PyData.depth, PyData.depthAll]
    omega
  | .lev who g t1 t2 b e o => by
    have h1 := depth_subj g
    have h2 := depth_pair b e
    have h3 := depth_pair t1 t2
    have h4 := depth_opt o
    simp only [dFact, PyData.depth, PyData.depthAll]
    omega
instance : Datum Subj where
  toD := dSubj
  plain := plain_subj
  eqv := eqv_subj
  depth := 3
  depth_le := depth_subj
instance : Datum Plain where
  toD := dPlain
  plain := plain_plain
  eqv := eqv_plain
  depth := 4
  depth_le := depth_plain
/-- a plain statement, told as the program's facts tell it -/
structure Fact where
  p : Plain
  deriving DecidableEq
instance : Datum Fact where
  toD f := dFact f.p
  plain f := plain_fact f.p
  eqv a b := by
    rw [eqv_fact]
    exact decide_eq_decide.mpr ⟨fun e => by cases a; cases b; exact congrArg Fact.mk e, fun e => by rw [e]⟩
  depth := 4
  depth_le f := depth_fact f.p
/-! ### what the law draws -/
def WordOk (z : Str) : Prop := 1 ≤ z.length ∧ z.length ≤ 8 ∧ ∀ c ∈ z.cps.toList, 97 ≤ c ∧ c ≤ 122
/-- a chain with at most n names -/
def ChainOk (n : Nat) (c : List Str) : Prop := 1 ≤ c.length ∧ c.length ≤ n + 1 ∧ ∀ z ∈ c, WordOk z
def SpanOk (b e : Int) : Prop := 0 ≤ b ∧ b ≤ e ∧ e ≤ 1000000000000000000000000000000
def SubjOk : Subj → Prop
  | .one c => ChainOk 4 c
  | .some k cs => 1 ≤ k ∧ k ≤ (cs.length : Int) ∧ cs.length ≤ 4 ∧ cs.Nodup ∧ ∀ c ∈ cs, ChainOk 4 c
def PlainOk : Plain → Prop
  | .nam who word c b e => WordOk who ∧ WordOk word ∧ ChainOk 4 c ∧ SpanOk b e
  | .lev who g t1 t2 b e o => WordOk who ∧ SubjOk g ∧ SpanOk t1 t2 ∧ SpanOk b e ∧ (o = none ∨ ∃ i, o = some i ∧ 0 ≤ i ∧ i ≤ 9)
/-! ### data without lists stay whatever is written but tuples -/
mutual
def noList : PyData → Bool
  | .list _ => false
  | .tuple ds => noListAll ds
  | _ => true
def noListAll : List PyData → Bool
  | [] => true
  | d :: ds => noList d && noListAll ds
end
class Flat (α : Type) [DecidableEq α] [Datum α] : Prop where
  ok : ∀ a : α, noList (Datum.toD a) = true
theorem noListAll_map {α : Type} [DecidableEq α] [Datum α] [Flat α] : ∀ xs : List α, noListAll (xs.map Datum.toD) = true
  | [] => rfl
  | x :: xs => by
    rw [List.map_cons, noListAll, Flat.ok x, noListAll_map xs]
    rfl
instance : Flat Int := ⟨fun _ => rfl⟩
instance : Flat Str := ⟨fun _ => rfl⟩
instance {α : Type} [DecidableEq α] [Datum α] [Flat α] : Flat (Tup α) := ⟨fun t => by
  show noList (.tuple (t.items.map Datum.toD)) = true
  rw [noList]
  exact noListAll_map t.items⟩
instance {α β : Type} [DecidableEq α] [Datum α] [Flat α] [DecidableEq β] [Datum β] [Flat β] : Flat (α × β) := ⟨fun t => by
  show noList (.tuple [Datum.toD t.1, Datum.toD t.2]) = true
  rw [noList, noListAll, noListAll, noListAll, Flat.ok t.1, Flat.ok t.2]
  rfl⟩
theorem noList_chain (c : List Str) : noList (dChain c) = true := by
  unfold dChain
  rw [noList]
  exact noListAll_map (α := Str) c
theorem noList_chains : ∀ cs : List (List Str), noListAll (cs.map dChain) = true
  | [] => rfl
  | c :: cs => by
    rw [List.map_cons, noListAll, noList_chain c, noList_chains cs]
    rfl
theorem noList_subj : ∀ g, noList (dSubj g) = true
  | .one c => noList_chain c
  | .some k cs => by
    simp only [dSubj, noList, noListAll, noList_chains cs, Bool.and_self]
theorem noList_opt : ∀ o, noList (dOpt o) = true
  | none => rfl
  | some _ => rfl
instance : Flat Subj := ⟨noList_subj⟩
instance : Flat Plain := ⟨fun p => by
  cases p with
  | nam who word c b e =>
    show noList (.tuple [.str "n", .str who, .str word, dChain c, dPair b e]) = true
    simp only [noList, noListAll, noList_chain, dPair, Bool.and_self]
  | lev who g t1 t2 b e o =>
    show noList (.tuple [.str "l", .str who, dSubj g, dPair t1 t2, dPair b e, dOpt o]) = true
    simp only [noList, noListAll, noList_subj, noList_opt, dPair, Bool.and_self]⟩
instance : Flat Fact := ⟨fun f => by
  obtain ⟨p⟩ := f
  cases p with
  | nam who word c b e =>
    show noList (.tuple [.str "naming", .str who, .str word, dChain c, dPair b e]) = true
    simp only [noList, noListAll, noList_chain, dPair, Bool.and_self]
  | lev who g t1 t2 b e o =>
    show noList (.tuple [.str "leave", .str who, dSubj g, dPair t1 t2, dPair b e, dOpt o]) = true
    simp only [noList, noListAll, noList_subj, noList_opt, dPair, Bool.and_self]⟩
section
variable {K : PySem.W.Frag} {H H' : Hp} {p : Addr}
mutual
theorem dp_butF {o : HO} (w : But p H H') (hp : H p = some o) (ho : Imm o = false) : ∀ (d : PyData) (v : V), noList d = true → Dp K H v d → Dp K H' v d
  | .none, _, _, h => by cases h; exact .non
  | .bool b, _, _, h => by cases h; exact .bl b
  | .int i, _, _, h => by cases h; exact .int i
  | .str x, _, _, h => by cases h; exact .str x
  | .list ds, _, n, _ => by rw [noList] at n; cases n
  | .tuple ds, _, n, h => by
    rw [noList] at n
    cases h with
    | tup h1 h2 => exact .tup (bt_t w hp ho h1) (dp_butFAll w hp ho ds _ n h2)
  | .dict _, _, _, h => by cases h
theorem dp_butFAll {o : HO} (w : But p H H') (hp : H p = some o) (ho : Imm o = false) : ∀ (ds : List PyData) (vs : List V), noListAll ds = true → DpAll K H vs ds → DpAll K H' vs ds
  | [], _, _, h => by cases h; exact .nil
  | d :: ds, _, n, h => by
    rw [noListAll, Bool.and_eq_true] at n
    cases h with
    | cons h1 h2 => exact .cons (dp_butF w hp ho d _ n.1 h1) (dp_butFAll w hp ho ds _ n.2 h2)
end
theorem Hd.butF {α : Type} [DecidableEq α] [Datum α] [Flat α] {v : V} {x : α} {o : HO} (w : But p H H') (hp : H p = some o) (h : Hd K H v x) (ho : Imm o = false := by rfl) : Hd K H' v x := dp_butF w hp ho _ _ (Flat.ok x) h
theorem HdAll.butF {α : Type} [DecidableEq α] [Datum α] [Flat α] {vs : List V} {xs : List α} {o : HO} (w : But p H H') (hp : H p = some o) (h : HdAll K H vs xs) (ho : Imm o = false := by rfl) : HdAll K H' vs xs := dp_butFAll w hp ho _ _ (noListAll_map xs) h
end
end NC
-- NcSet
set_option Elab.async false
set_option linter.all false
set_option maxRecDepth 100000
set_option maxHeartbeats 4000000
/-! Sets of whole numbers and texts whose members are told by a list; sorted(set); sets that a comprehension makes. -/
namespace NC
open PySem PySem.Spec PyProof.Rows L2
/-- the key that a member is -/
def keyE (e : Int × Value) : Key := match e.2 with
  | .int i _ => .inl i
  | .str x _ => .inr x
  | _ => .inl 0
def MemE (w : World) (e : Int × Value) : Prop := keyIs (keyE e) e.2 = true ∧ e.1 = keyH w (keyE e)
theorem keyE_of {k : Key} {v : Value} {n : Int} (h : keyIs k v = true) : keyE (n, v) = k := by
  rcases keyIs_shape h with ⟨i, t, rfl, rfl⟩ | ⟨x, t, rfl, rfl⟩ <;> rfl
theorem memE_of {w : World} {k : Key} {v : Value} (h : keyIs k v = true) : MemE w (keyH w k, v) := by
  unfold MemE
  rw [keyE_of h]
  exact ⟨h, rfl⟩
theorem scan_of {k : Key} {v : Value} (h : keyIs k v = true) : v.scannable = true := by
  rcases keyIs_shape h with ⟨i, t, rfl, rfl⟩ | ⟨x, t, rfl, rfl⟩ <;> rfl
theorem rel_of {k : Key} {v : Value} (h : keyIs k v = true) : RelV (kV k) v := by
  rcases keyIs_shape h with ⟨i, t, rfl, rfl⟩ | ⟨x, t, rfl, rfl⟩ <;> exact ⟨t, rfl⟩
theorem elems_of {P : Program} {w : World} {l : List (Int × Value)} (g : ∀ e ∈ l, MemE w e) : ElemsOf (mixKind P w) l :=
  fun e he => ⟨⟨keyE e, (g e he).1, (g e he).2⟩, scan_of (g e he).1⟩
theorem is_iff {e : Int × Value} {w : World} (g : MemE w e) (k : Key) : keyIs k e.2 = true ↔ keyE e = k := by
  constructor
  · intro h
    have q : keyE (e.1, e.2) = k := keyE_of h
    exact q
  · intro h
    rw [← h]
    exact g.1
/-- the set at a has the members L -/
def SetS (w : World) (h : Heap) (a : Addr) (L : List Key) : Prop :=
  ∃ o es ep t, (h.get? a = some o ∧ o.ExactSet ∧ o.data = .set es ep t) ∧ (∀ e ∈ es.toList, MemE w e) ∧ (es.toList.map keyE).Perm L ∧ L.Nodup ∧
    (es.size < scanBound ∧ t.fits es.size = true) ∧ Ris t.place.toList ∧ (w.params.followText "set-order" = true ∨ t.led = true)
noncomputable instance memKey (k : Key) (L : List Key) : Decidable (k ∈ L) := Classical.propDecidable _
/-- one more -/
noncomputable def addL (L : List Key) (k : Key) : List Key := if k ∈ L then L else k :: L
theorem mem_addL {L : List Key} {k j : Key} : j ∈ addL L k ↔ j = k ∨ j ∈ L := by
  unfold addL
  by_cases h : k ∈ L
  · rw [if_pos h]
    exact ⟨.inr, fun z => z.elim (fun e => e ▸ h) id⟩
  · rw [if_neg h, List.mem_cons]
theorem addL_nodup {L : List Key} {k : Key} (h : L.Nodup) : (addL L k).Nodup := by
  unfold addL
  by_cases z : k ∈ L
  · rw [if_pos z]
    exact h
  · rw [if_neg z]
    exact List.nodup_cons.mpr ⟨z, h⟩
theorem addL_len {L : List Key} {k : Key} : (addL L k).length ≤ L.length + 1 := by
  unfold addL
  by_cases z : k ∈ L
  · rw [if_pos z]
    omega
  · rw [if_neg z, List.length_cons]
    exact Nat.le_refl _
section
variable {P : Program} {w : World} {A : Around} {E : Value → Shared → Prop} {s : Shared} {a : Addr} {L : List Key}
theorem SetS.keep {h h' : Heap} (R : SetS w h a L) (k : ∀ o, h.get? a = some o → h'.get? a = some o) : SetS w h' a L := by
  obtain ⟨o, es, ep, t, ⟨ho, r0⟩, r⟩ := R
  exact ⟨o, es, ep, t, ⟨k o ho, r0⟩, r⟩
theorem SetS.size {h : Heap} (R : SetS w h a L) : L.length < scanBound := by
  obtain ⟨o, es, ep, t, _, _, pm, _, ⟨hb, _⟩, _⟩ := R
  rw [← pm.length_eq, List.length_map, Array.length_toList]
  exact hb
theorem SetS.setOf {h : Heap} (R : SetS w h a L) : h.SetOf (mixKind P w) a (fun k => decide (k ∈ L)) L.length := by
  obtain ⟨o, es, ep, t, ⟨ho, hx, hd⟩, g, pm, nd, ⟨hb, hf⟩, _⟩ := R
  refine ⟨o, es, ep, t, ho, hx, hd, elems_of g, fun k => ?_, hb, hf, ?_⟩
  · rw [decide_eq_true_eq, ← pm.mem_iff, List.mem_map]
    exact ⟨fun ⟨e, he, q⟩ => ⟨e, he, (is_iff (g e he) k).2 q⟩, fun ⟨e, he, q⟩ => ⟨e, he, (is_iff (g e he) k).1 q⟩⟩
  · rw [← pm.length_eq, List.length_map, Array.length_toList]
theorem SetS.fresh {h : Heap} (w : World) : SetS w (h.push { cls := .type "set", dict := none, data := .set #[] 0 (.fresh 0 0 (!w.params.followText "set-order")) }) h.objs.size [] := by
  refine ⟨_, #[], 0, _, ⟨Heap.get?_push_size _ rfl, ⟨rfl, rfl, rfl⟩, rfl⟩, fun e he => by simp at he, .refl _, List.nodup_nil, ⟨by decide, by rfl⟩, .nil, ?_⟩
  cases w.params.followText "set-order" with
  | true => exact .inl rfl
  | false => exact .inr rfl
/-- the entries are stored, the table laid anew if it is too full -/
theorem put_set {o : Obj} {es es1 : Array (Int × Value)} {ep : Nat} {t t1 : SetTable} {wd : Bool} {gv : Bool → Sem Unit} {R : Option Bool → Shared → Prop} (gvOk : ∀ (b : Bool) (s1 : Shared) (Q : Unit → Shared → Prop), Q () s1 → wpAny (model P w) A (gv b) Q E s1)
    (ho : s.heap.get? a = some o ∧ o.ExactSet ∧ o.data = .set es ep t) (g : ∀ e ∈ es1.toList, MemE w e) (pm : (es1.toList.map keyE).Perm L) (nd : L.Nodup) (sz : es1.size < scanBound ∧ t1.fits es1.size = true) (ri : Ris t1.place.toList)
    (ld : w.params.followText "set-order" = true ∨ t1.led = true) (hR : ∀ h', Heap.SameBut a s.heap h' → SetS w h' a L → R (some true) { s with heap := h' }) :
    wpAny (model P w) A (do
        storeSet a es1 t1
        if (!wd && t1.tooFull) = true then do
            gv (relayAll t1 es1 (SetTable.grown es1.size)).2.2
            storeSet a (relayAll t1 es1 (SetTable.grown es1.size)).1 (relayAll t1 es1 (SetTable.grown es1.size)).2.1
            pure (some true)
          else pure (some true)) R E s := by
  obtain ⟨h0, hx, hd⟩ := ho
  have st := store_at (es' := es1) (t' := t1) h0 hd
  have sb := Heap.SameBut.update s.heap a (Obj.putSet es1 t1)
  refine wpAny_bind (wpAny_storeSet_of h0 hd ?_ (fits_of_scanBound sz.1))
  split
  · obtain ⟨q1, q2, q3, q4⟩ : (relayAll t1 es1 (SetTable.grown es1.size)).1.toList.Perm es1.toList ∧ (relayAll t1 es1 (SetTable.grown es1.size)).2.1.fits (relayAll t1 es1 (SetTable.grown es1.size)).1.size = true ∧
        Ris (relayAll t1 es1 (SetTable.grown es1.size)).2.1.place.toList ∧ (relayAll t1 es1 (SetTable.grown es1.size)).2.1.led = t1.led :=
      ⟨relayAll_perm _ _ _, relayAll_fits _ _ _, relayAll_ris _ _ _, relayAll_led _ _ _⟩
    revert q1 q2 q3 q4
    generalize relayAll t1 es1 (SetTable.grown es1.size) = Z
    intro q1 q2 q3 q4
    have z1 : Z.1.size < scanBound := by
      rw [← Array.length_toList, q1.length_eq, Array.length_toList]
      exact sz.1
    have end_ : SetS w ((s.heap.update a (Obj.putSet es1 t1)).update a (Obj.putSet Z.1 Z.2.1)) a L :=
      ⟨_, Z.1, _, Z.2.1, ⟨store_at (es' := Z.1) (t' := Z.2.1) st rfl, hx, rfl⟩, fun e he => g e (q1.mem_iff.mp he), (q1.map keyE).trans pm, nd, ⟨z1, q2⟩, q3, ld.imp id fun z => q4.trans z⟩
    exact wpAny_bind (gvOk _ _ _ (wpAny_bind (wpAny_storeSet_of st rfl (wpAny_pure (hR _ (sb.trans (Heap.SameBut.update _ a _)) end_)) (fits_of_scanBound z1))))
  · exact wpAny_pure (hR _ sb ⟨_, es1, _, t1, ⟨st, hx, rfl⟩, g, pm, nd, sz, ri, ld⟩)
theorem gave_ok (P : Program) (w : World) (A : Around) (E : Value → Shared → Prop) (b : Bool) (s1 : Shared) (Q : Unit → Shared → Prop) (q : Q () s1) : wpAny (model P w) A (match b with | true => rule "set.scan.the-table-gave-way" | false => pure ()) Q E s1 := by
  cases b with
  | true => exact wpAny_rule q
  | false => exact wpAny_pure q
theorem add_hashed {k : Key} {v : Value} {Q : Bool → Shared → Prop} (R : SetS w s.heap a L) (hk : keyIs k v = true) (room : L.length + 1 < scanBound) (hQ : ∀ (b : Bool) h', Heap.SameBut a s.heap h' → SetS w h' a (addL L k) → Q b { s with heap := h' }) :
    wpAny (model P w) A (setAddHashed a v (keyH w k)) Q E s := by
  obtain ⟨o, es, ep, t, ho, g, pm, nd, ⟨hb, hf⟩, ri, ld⟩ := R
  have sc := scan_of hk
  have el : ElemsOf (mixKind P w) es.toList := elems_of g
  unfold setAddHashed setAddHashedIn
  refine wpAny_holding (wpAny_bind (wpAny_setState_of ho.1 ho.2.2 hf ?_))
  dsimp only
  rw [byScan_of sc hb el, if_pos rfl]
  unfold setAddByScan
  refine wpAny_bind (wpAny_bind (wpAny_rule (wpAny_bind (wpAny_setScan_of (knd := mixKind P w) (k := k) hk ho.1 ho.2.2 hf el ?_))))
  cases hfi : List.findIdx? (fun e => (mixKind P w).is k e.2) es.toList with
  | some j =>
    obtain ⟨hj, pj, _⟩ := List.findIdx?_eq_some_iff_getElem.mp hfi
    have there : k ∈ L := pm.mem_iff.mp (List.mem_map.mpr ⟨_, List.getElem_mem hj, (is_iff (g _ (List.getElem_mem hj)) k).1 pj⟩)
    have q := hQ false s.heap (Heap.SameBut.refl a s.heap)
    unfold addL at q
    rw [if_pos there] at q
    exact wpAny_pure (wpAny_pure (q ⟨o, es, ep, t, ho, g, pm, nd, ⟨hb, hf⟩, ri, ld⟩))
  | none =>
    have out : k ∉ L := fun z => by
      obtain ⟨e, he, q⟩ := List.mem_map.mp (pm.mem_iff.mpr z)
      have c := List.findIdx?_eq_none_iff.mp hfi e he
      rw [show (mixKind P w).is k e.2 = true from (is_iff (g e he) k).2 q] at c
      cases c
    obtain ⟨p1, f1, r1, l1⟩ : (layNew t es (keyH w k) v).1.toList.Perm (es.push (keyH w k, v)).toList ∧ (layNew t es (keyH w k) v).2.1.fits (layNew t es (keyH w k) v).1.size = true ∧
        Ris (layNew t es (keyH w k) v).2.1.place.toList ∧ (layNew t es (keyH w k) v).2.1.led = t.led := ⟨layNew_perm _ _ _ _, layNew_fits _ _ _ _, layNew_ris _ _ _ _ ri, layNew_led _ _ _ _⟩
    dsimp only
    revert p1 f1 r1 l1
    generalize layNew t es (keyH w k) v = Z
    obtain ⟨es1, t1, wd, gv⟩ := Z
    dsimp only
    intro p1 f1 r1 l1
    rw [Array.toList_push] at p1
    have pc := p1.trans (List.perm_append_singleton _ _)
    have g1 : ∀ e ∈ es1.toList, MemE w e := fun e he => (List.mem_cons.mp (pc.mem_iff.mp he)).elim (fun z => z ▸ memE_of hk) (g e)
    have pk : (es1.toList.map keyE).Perm (addL L k) := by
      unfold addL
      rw [if_neg out]
      have q := pc.map keyE
      rw [List.map_cons, show keyE (keyH w k, v) = k from keyE_of hk] at q
      exact q.trans (pm.cons k)
    have z1 : es1.size < scanBound := by
      have q := pk.length_eq
      rw [List.length_map, Array.length_toList] at q
      have := addL_len (L := L) (k := k)
      omega
    have ld1 := ld.imp id fun z : t.led = true => l1.trans z
    refine wpAny_bind (gave_ok P w A E _ _ _ ?_)
    split
    · refine wpAny_bind ?_
      rw [hashByValue_scannable 8 sc]
      refine wpAny_pure (put_set (gave_ok P w A E) ho g1 pk (addL_nodup nd) ⟨z1, ?_⟩ ?_ ?_ fun h' sb r => wpAny_pure (hQ true h' sb r))
      · first
          | (split <;> first | exact f1 | exact SetTable.fits_plain_off f1)
          | exact f1
      · first
          | (split <;> exact r1)
          | exact r1
      · first
          | (split <;> exact ld1)
          | exact ld1
    · refine wpAny_bind (wpAny_pure ?_)
      simp only [↓reduceIte]
      exact put_set (gave_ok P w A E) ho g1 pk (addL_nodup nd) ⟨z1, f1⟩ r1 ld1 fun h' sb r => wpAny_pure (hQ true h' sb r)
/-- s.add(k) -/
theorem add_set {k : Key} {v : Value} {Q : Value → Shared → Prop} (R : SetS w s.heap a L) (hk : keyIs k v = true) (room : L.length + 1 < scanBound) (hQ : ∀ h' tk, Heap.SameBut a s.heap h' → SetS w h' a (addL L k) → Q .none { s with heap := h', toks := tk }) :
    wpAny (model P w) A (call (.builtin "set.add") [.ref a, v]) Q E s := by
  refine wpAny_call_entry F.slot_set_add (R.setOf (P := P)).typeIs F.entry_set_add ?_ (F.args_set_add_2 _ _)
  unfold Builtin.«set.add» Builtin.Frozenset.oneOther
  simp only [List.isEmpty_nil, bind_assoc]
  unfold Builtin.Frozenset.addrOf setAdd
  refine wpAny_bind (wpAny_pure (wpAny_bind (wpAny_pure (wpAny_bind (wpAny_holding (wpAny_bind ((mixKind P w).pyHash (k := k) hk ?_)))))))
  refine add_hashed (s := { s with toks := s.toks + 1 }) R hk room fun b h' sb r => ?_
  exact wpAny_pure ⟨_, rfl, hQ h' (s.toks + 1) sb r⟩
end
end NC
-- NcSet2
set_option Elab.async false
set_option linter.all false
set_option maxRecDepth 100000
set_option maxHeartbeats 4000000
/-! set(a list), set(a tuple): any kind of members. -/
namespace NC
open PySem PySem.Spec PyProof.Rows L2
/-- the new set's object -/
def set0 (w : World) : Obj := { cls := .type "set", dict := none, data := .set #[] 0 (.fresh 0 0 (!w.params.followText "set-order")) }
section
variable {P : Program} {w : World} {A : Around} {E : Value → Shared → Prop} {s : Shared} {G : Array GenState → Array GenState → Prop} {St : Nat → Shared → Prop} {J : Addr} {fp wr : List Addr} {R : Result → Shared → Prop}
/-- one turn: a member is laid in; h0: what stays -/
def Adds (P : Program) (w : World) (a : Addr) (h0 : Heap) (us : List Value) (u0 : Nat) (Z : Nat → Heap → Prop) : Prop := ∀ (i : Nat) (v : Value) (A : Around) (E : Value → Shared → Prop) (s : Shared) (Q : Bool → Shared → Prop), us[i]? = some v → A.units ≤ u0 → Z i s.heap →
  (∀ b o, h0.get? b = some o → s.heap.get? b = some o) → (∀ (z : Bool) h' tk, Heap.SameBut a s.heap h' → s.toks ≤ tk → Z (i + 1) h' → Q z { s with heap := h', toks := tk }) → wpAny (model P w) A (setAdd a v) Q E s
theorem upd_loop {a : Addr} {h0 : Heap} {us : List Value} {u0 : Nat} {Z : Nat → Heap → Prop} (W : WalksS P w A.in1 J fp wr G us.length (fun i v => us[i]? = some v) St) (na : a ∉ fp) (na0 : h0.get? a = none) (nw : ∀ b ∈ wr, h0.get? b = none) (hu : A.units + 1 ≤ u0)
    (st : ∀ i h h', Z i h → (∀ o, h.get? a = some o → h'.get? a = some o) → Z i h') (ad : Adds P w a h0 us u0 Z) : ∀ (m i : Nat) (s : Shared), us.length = i + m → St i s → Z i s.heap → (∀ b o, h0.get? b = some o → s.heap.get? b = some o) →
      (∀ s', Moved (a :: wr) G s s' → Z us.length s'.heap → R (.ok (.ret .none)) s') → codeAny (model P w) A (.builtin "set.update.loop" ⟨[.ref a, .ref J], []⟩) R s := by
  have naw : a ∉ wr := fun z => na (W.sub _ z)
  have more : ∀ {s s' : Shared}, Moved wr G s s' → Moved (a :: wr) G s s' := fun q => q.mono fun b hb => List.mem_cons_of_mem _ hb
  intro m
  induction m with
  | zero =>
    intro i s e hs hF hold k
    obtain rfl : us.length = i := by omega
    refine codeAny_builtin F.entry_set_update_loop ?_
    rw [Around.under_plainId F.plain_set_update_loop _]
    exact wpAny_bind (W.done s _ _ hs fun s' mv => wpAny_pure (k s' (more mv) (st _ _ _ hF fun o => mv.heap a o naw)))
  | succ m ih =>
    intro i s e hs hF hold k
    refine codeAny_builtin F.entry_set_update_loop ?_
    rw [Around.under_plainId F.plain_set_update_loop _]
    refine wpAny_bind (W.item i s _ _ (by omega) hs fun v s1 hv hs1 mv => ?_)
    have old1 : ∀ b o, h0.get? b = some o → s1.heap.get? b = some o := fun b o q => mv.heap b o (fun z => by
      have n := nw b z
      rw [q] at n
      cases n) (hold b o q)
    refine wpAny_bind (wpAny_holding (ad i v A.in1 _ s1 _ hv hu (st _ _ _ hF fun o => mv.heap a o naw) old1 fun z h' tk sb ht hF' => ?_))
    refine wpAny_pure ⟨plainId_quiet F.plain_set_update_loop _, ih (i + 1) _ (by omega) (W.frame _ s1 _ _ hs1 ht fun b hb o q => ?_) hF' (fun b o q => ?_) fun s2 mv2 hF2 => ?_⟩
    · rw [sb.2 b fun z => na (z ▸ hb)]
      exact q
    · rw [sb.2 b fun z => by rw [z, na0] at q; cases q]
      exact old1 b o q
    · refine k s2 (Moved.trans W.gtrans ((more mv).then_heap ht fun b o nb q => ?_) mv2) hF2
      rw [sb.2 b fun z => nb (by rw [z]; exact List.mem_cons_self)]
      exact q
/-- a list | a tuple -/
def SeqAt (h : Heap) (l : Addr) (us : List Value) : Prop := h.IsList l us.toArray ∨ h.IsTuple l us.toArray
theorem new_set1 (x : Value) {Q : Value → Shared → Prop} (h : Q (.ref s.heap.objs.size) { s with heap := s.heap.push (set0 w) }) : codeAny (model P w) A (.call (.builtin "set.__new__") ⟨[.type "set", x], []⟩) (wants Q E) s :=
  code_set_led1 x h
theorem set_run {l : Addr} {us : List Value} {u0 : Nat} {Z : Nat → Heap → Prop} (lS : l < s.heap.objs.size) (st : ∀ i h h', Z i h → (∀ o, h.get? s.heap.objs.size = some o → h'.get? s.heap.objs.size = some o) → Z i h')
    (hF0 : ∀ h', h'.get? s.heap.objs.size = some (set0 w) → Z 0 h') (ad : Adds P w s.heap.objs.size s.heap us u0 Z) (A' : Around) (ha : A'.handled = none) (hu : A'.units + 1 ≤ u0) (T : String) (R' : Result → Shared → Prop)
    (hT : (T = "list_iterator" ∧ s.heap.IsList l us.toArray) ∨ (T = "tuple_iterator" ∧ s.heap.IsTuple l us.toArray))
    (k : ∀ h' tk, Z us.length h' → (∀ b o, s.heap.get? b = some o → h'.get? b = some o) → R' (.ok (.ret .none)) { s with heap := h', toks := tk }) :
    codeAny (model P w) A' (.builtin "set.update.loop" ⟨[.ref s.heap.objs.size, .ref (s.heap.objs.size + 1)], []⟩) R' { s with heap := (s.heap.push (set0 w)).push { cls := .type T, data := .fields #[.ref l, .int 0 0] } } := by
  have h0 : (s.heap.push (set0 w)).get? s.heap.objs.size = some (set0 w) := Heap.get?_push_size _ rfl
  have size1 : (s.heap.push (set0 w)).objs.size = s.heap.objs.size + 1 := Heap.size_push ..
  have hI : ((s.heap.push (set0 w)).push { cls := .type T, data := .fields #[.ref l, .int 0 0] }).get? (s.heap.objs.size + 1) = some { cls := .type T, data := .fields #[.ref l, .int 0 0] } := by
    rw [← size1]
    exact Heap.get?_push_size _ rfl
  have old : ∀ b o, s.heap.get? b = some o → ((s.heap.push (set0 w)).push { cls := .type T, data := .fields #[.ref l, .int 0 0] }).get? b = some o := fun b o q => Heap.get?_push_of_some _ (Heap.get?_push_of_some _ q)
  have nz : ∀ b, s.heap.objs.size ≤ b → s.heap.get? b = none := fun b hb => by
    cases q : s.heap.get? b with
    | none => rfl
    | some o => exact absurd (Heap.lt_size q) (Nat.not_lt.mpr hb)
  have fin : ∀ s', Moved [s.heap.objs.size, s.heap.objs.size + 1] (fun a b => b = a) { s with heap := (s.heap.push (set0 w)).push { cls := .type T, data := .fields #[.ref l, .int 0 0] } } s' → Z us.length s'.heap → R' (.ok (.ret .none)) s' := fun s' mv hF => by
    obtain ⟨h', g2, d2, tk2, o2⟩ := s'
    obtain rfl : g2 = s.gens := mv.gens
    obtain rfl : d2 = s.drawn := mv.drawn
    obtain rfl : o2 = s.os := mv.os
    exact k h' tk2 hF fun b o q => mv.heap b o (fun z => by
      have z1 : b < s.heap.objs.size := Heap.lt_size q
      rcases List.mem_cons.mp z with z | z
      · exact Nat.ne_of_lt z1 z
      · exact Nat.ne_of_lt (Nat.lt_succ_of_lt z1) (List.mem_singleton.mp z)) (old b o q)
  have nf : s.heap.objs.size ∉ [s.heap.objs.size + 1, l] := by
    simp only [List.mem_cons, List.not_mem_nil, or_false, not_or]
    exact ⟨Nat.ne_of_lt (Nat.lt_succ_self _), Nat.ne_of_gt lS⟩
  have szt : us.toArray.size = us.length := by simp
  have F0 : Z 0 ((s.heap.push (set0 w)).push { cls := .type T, data := .fields #[.ref l, .int 0 0] }) := hF0 _ (Heap.get?_push_of_some _ h0)
  have nw : ∀ b ∈ [s.heap.objs.size + 1], s.heap.get? b = none := fun b hb => nz b (by rw [List.mem_singleton.mp hb]; exact Nat.le_succ _)
  rcases hT with ⟨rfl, q⟩ | ⟨rfl, q⟩
  · have W := (Walks.list (prog := P) (w := w) (A := A'.in1) ha (s.heap.objs.size + 1) l (Nat.ne_of_lt (Nat.lt_succ_of_lt lS)) us.toArray).toS
    rw [szt] at W
    have W' : WalksS P w A'.in1 (s.heap.objs.size + 1) [s.heap.objs.size + 1, l] [s.heap.objs.size + 1] (fun a b => b = a) us.length (fun i v => us[i]? = some v) (fun i s1 => s1.heap.IsListIter (s.heap.objs.size + 1) l i ∧ s1.heap.IsList l us.toArray) := by
      simpa only [List.getElem?_toArray] using W
    exact upd_loop W' nf (nz _ (Nat.le_refl _)) nw hu st ad us.length 0 _ (Nat.zero_add _).symm ⟨⟨_, hI, rfl, rfl⟩, q.at fun o e => old _ o e⟩ F0 old fin
  · have W := (Walks.tuple (prog := P) (w := w) (A := A'.in1) ha (s.heap.objs.size + 1) l (Nat.ne_of_lt (Nat.lt_succ_of_lt lS)) us.toArray).toS
    rw [szt] at W
    have W' : WalksS P w A'.in1 (s.heap.objs.size + 1) [s.heap.objs.size + 1, l] [s.heap.objs.size + 1] (fun a b => b = a) us.length (fun i v => us[i]? = some v) (fun i s1 => s1.heap.IsTupleIter (s.heap.objs.size + 1) l i ∧ s1.heap.IsTuple l us.toArray) := by
      simpa only [List.getElem?_toArray] using W
    exact upd_loop W' nf (nz _ (Nat.le_refl _)) nw hu st ad us.length 0 _ (Nat.zero_add _).symm ⟨⟨_, hI, rfl, rfl⟩, q.at fun o e => old _ o e⟩ F0 old fin
theorem call_set_of {l : Addr} {us : List Value} {Z : Nat → Heap → Prop} {Q : Value → Shared → Prop} (hh : A.handled = none) (hl : SeqAt s.heap l us) (st : ∀ i h h', Z i h → (∀ o, h.get? s.heap.objs.size = some o → h'.get? s.heap.objs.size = some o) → Z i h')
    (hF0 : ∀ h', h'.get? s.heap.objs.size = some (set0 w) → Z 0 h') (ad : Adds P w s.heap.objs.size s.heap us (A.units + 5) Z)
    (h : ∀ (h' : Heap) (tk : Nat), Z us.length h' → (∀ b o, s.heap.get? b = some o → h'.get? b = some o) → Q (.ref s.heap.objs.size) { s with heap := h', toks := tk }) : wpAny (model P w) A (call (.type "set") [.ref l]) Q E s := by
  have h0 : (s.heap.push (set0 w)).get? s.heap.objs.size = some (set0 w) := Heap.get?_push_size _ rfl
  have lS : l < s.heap.objs.size := by
    rcases hl with ⟨o, q, _⟩ | ⟨o, q, _⟩ <;> exact Heap.lt_size q
  have size1 : (s.heap.push (set0 w)).objs.size = s.heap.objs.size + 1 := Heap.size_push ..
  obtain ⟨c, tl, hmro⟩ := F.called_set.mro
  have hmade := F.called_set.made
  have hsub := F.called_set.sub
  refine wpAny_call (codeAny_of_tree ?_)
  show wpAny _ _ (callAny (.type "set") _) _ _ _
  refine wpAny_pure ⟨Code.quiet_builtin _ (by decide +kernel), codeAny_builtin F.entry_type_call ?_⟩
  rw [Around.under_plain (weight_type_call_type "set" [.ref l] []) rfl]
  have h1 := F.called_set.notType
  have h2 := F.called_set.canCreate
  have hct := F.typeCall_set_1 (.ref l)
  repeat (any_goals (first | assumption | wp_step))
  refine codeAny_mono (new_set1 (.ref l) (E := E) (Q := fun z s1 => z = .ref s.heap.objs.size ∧ s1 = { s with heap := s.heap.push (set0 w) }) ⟨rfl, rfl⟩) fun r s1 hr => ?_
  cases r with
  | error e => exact hr
  | ok fl =>
    cases fl with
    | ret z =>
      obtain ⟨rfl, rfl⟩ := hr
      have hT : Shared.TypeIs { s with heap := s.heap.push (set0 w) } (.ref s.heap.objs.size) "set" := ⟨_, h0, rfl⟩
      have hli := F.called_set.init.lookup
      have hbi := F.called_set.init.bind (.ref s.heap.objs.size)
      repeat (any_goals (first | assumption | wp_step))
      refine codeAny_mono (codeAny_call_builtin (R := wants (fun r s2 => r = .none ∧ ∃ h' tk, s2 = { s with heap := h', toks := tk } ∧ Z us.length h' ∧ ∀ b o, s.heap.get? b = some o → h'.get? b = some o) E) F.called_set.init.plain F.entry_set_init (check_set_init_1 hT ?_)) fun r2 s2 hr2 => ?_
      · unfold Builtin.«set.__init__» noKeywords Builtin.Frozenset.updateFrom
        generalize hPI : pyIter = PI
        rcases id hl with q | q
        · obtain ⟨ol, hol, hcl, nl, hdl⟩ := id q
          obtain ⟨ocls, odict, odata, oslots⟩ := ol
          simp only at hcl hdl
          subst hcl
          subst hdl
          have hol' := Heap.get?_push_of_some (set0 w) hol
          have e1 : (Value.type "list" == Value.type "dict") = false := by decide
          have c1 := F.sub_list_set
          have c2 := F.sub_list_frozenset
          have q1 : (s.heap.push (set0 w)).IsList l us.toArray := ⟨_, hol', rfl, nl, rfl⟩
          wp_walk
          subst hPI
          refine wpAny_pyIter_list q1 (wpAny_bind (wpAny_runValue ?_))
          rw [size1]
          exact set_run (u0 := A.units + 5) lS st hF0 ad A.in1.in1 hh (by show A.units + 1 + 1 + 1 ≤ A.units + 5; omega) "list_iterator" _ (.inl ⟨rfl, q⟩) fun h' tk hF old => wpAny_pure (wpAny_pure ⟨rfl, h', tk, rfl, hF, old⟩)
        · obtain ⟨ol, hol, hcl, nl, hdl⟩ := id q
          obtain ⟨ocls, odict, odata, oslots⟩ := ol
          simp only at hcl hdl
          subst hcl
          subst hdl
          have hol' := Heap.get?_push_of_some (set0 w) hol
          have e1 : (Value.type "tuple" == Value.type "dict") = false := by decide
          have c1 := F.sub_tuple_set
          have c2 := F.sub_tuple_frozenset
          have q1 : (s.heap.push (set0 w)).IsTuple l us.toArray := ⟨_, hol', rfl, nl, rfl⟩
          wp_walk
          subst hPI
          refine wpAny_pyIter_tuple q1 (wpAny_bind (wpAny_runValue ?_))
          rw [size1]
          exact set_run (u0 := A.units + 5) lS st hF0 ad A.in1.in1 hh (by show A.units + 1 + 1 + 1 ≤ A.units + 5; omega) "tuple_iterator" _ (.inr ⟨rfl, q⟩) fun h' tk hF old => wpAny_pure (wpAny_pure ⟨rfl, h', tk, rfl, hF, old⟩)
      · cases r2 with
        | error e => exact hr2
        | ok f2 =>
          cases f2 with
          | ret r =>
            obtain ⟨rfl, h', tk, rfl, hF, old⟩ := hr2
            repeat (any_goals (first | assumption | wp_step))
            exact h _ _ hF old
          | _ => exact hr2.elim
    | _ => exact hr.elim
theorem adds_keys {a : Addr} {h0 : Heap} {us : List Value} {u0 : Nat} {ks : List Key} (hk : ItemsAre (mixKind P w) ks us) (room : ks.length + 1 < scanBound) : Adds P w a h0 us u0 (fun i h => SetS w h a ((ks.take i).foldl addL [])) := by
  intro i v A E s Q hv hu R old k
  have len : ∀ (l : List Key) (L : List Key), (l.foldl addL L).length ≤ L.length + l.length := by
    intro l
    induction l with
    | nil => intro L; exact Nat.le_refl _
    | cons x l ih =>
      intro L
      have h1 := ih (addL L x)
      have h2 := addL_len (L := L) (k := x)
      rw [List.foldl_cons, List.length_cons]
      omega
  obtain ⟨x, hx, hxk⟩ : ∃ x, ks[i]? = some x ∧ keyIs x v = true := by
    clear R room old k
    induction hk generalizing i with
    | nil => simp at hv
    | @cons k0 v0 ks us h1 h2 ih =>
      cases i with
      | zero =>
        simp at hv
        subst hv
        exact ⟨k0, rfl, h1⟩
      | succ i => simpa using ih i (by simpa using hv)
  unfold setAdd
  refine wpAny_holding (wpAny_bind ((mixKind P w).pyHash (k := x) hxk ?_))
  refine add_hashed (s := { s with toks := s.toks + 1 }) R hxk ?_ fun b h' sb R' => k b h' (s.toks + 1) sb (Nat.le_succ _) ?_
  · have h1 := len (ks.take i) []
    rw [List.length_take, List.length_nil] at h1
    omega
  · show SetS w h' a ((ks.take (i + 1)).foldl addL [])
    rw [List.take_add_one, hx, Option.toList_some, List.foldl_append, List.foldl_cons, List.foldl_nil]
    exact R'
end
end NC
-- NcSet3
set_option Elab.async false
set_option linter.all false
set_option maxRecDepth 100000
set_option maxHeartbeats 4000000
/-! Sets as tracked things: set(list | tuple), sorted(set), {elt for .. in .. for .. in ..}; sorted(a list of data). -/
namespace NC
open PySem PySem.Spec PyProof.Rows L2 PySem.W
/-- the set at a, its members L -/
def SetM (w : World) (a : Addr) (L : List Key) : HO := .ext fun h => SetS w h a L
section
variable {X : Cx} {pins : List (Addr × Obj)} {σ : L2.St} {H : Hp} {s : Shared}
theorem setM_ok {P : Program} {w : World} {H : Hp} {h : Heap} {a : Addr} {L : List Key} (R : SetS w h a L) : ObjOk P w H h a (SetM w a L) := by
  have ⟨o, _, _, _, ⟨ho, _⟩, _⟩ := R
  exact ⟨R, ⟨o, ho⟩, fun h1 h2 p k => SetS.keep p k⟩
theorem setM_get {a : Addr} {L : List Key} (I : Inv X pins σ H s) (ha : H a = some (SetM X.w a L)) : SetS X.w s.heap a L := (I.hok a _ ha).1
theorem addM {E : Value → Shared → Prop} {D : Addr} {L : List Key} {k : Key} {v : Value} {Q : Value → Shared → Prop} (I : Inv X pins σ H s) (hD : H D = some (SetM X.w D L)) (hk : keyIs k v = true) (room : L.length + 1 < scanBound)
    (h : ∀ s', Inv X pins σ (upd H D (SetM X.w D (addL L k))) s' → Q .none s') : wpAny (model X.prog X.w) X.A (call (.builtin "set.add") [.ref D, v]) Q E s := by
  refine add_set (setM_get I hD) hk room fun h' tk sb new => ?_
  have he : ∃ u, h'.get? D = some u := by
    have ⟨o, _, _, _, ⟨ho, _⟩, _⟩ := new
    exact ⟨o, ho⟩
  exact h _ (I.write (e := D) (t' := tk) (by rw [hD]; trivial) (.inl rfl) (fun b u hb hu => (sb.2 b hb).trans hu) he (setM_ok new))
/-- the members of a list of keys, each once -/
noncomputable def once (ks : List Key) : List Key := ks.foldl addL []
theorem fold_mem : ∀ (ks L : List Key) (k : Key), k ∈ ks.foldl addL L ↔ k ∈ ks ∨ k ∈ L
  | [], L, k => by simp
  | x :: ks, L, k => by
    rw [List.foldl_cons, fold_mem ks (addL L x) k, mem_addL, List.mem_cons]
    constructor
    · rintro (h | h | h)
      · exact .inl (.inr h)
      · exact .inl (.inl h)
      · exact .inr h
    · rintro ((h | h) | h)
      · exact .inr (.inl h)
      · exact .inl h
      · exact .inr (.inr h)
theorem mem_once {ks : List Key} {k : Key} : k ∈ once ks ↔ k ∈ ks := by
  unfold once
  rw [fold_mem]
  simp
theorem fold_nodup : ∀ (ks L : List Key), L.Nodup → (ks.foldl addL L).Nodup
  | [], _, h => h
  | x :: ks, L, h => fold_nodup ks _ (addL_nodup h)
theorem fold_len : ∀ (ks L : List Key), (ks.foldl addL L).length ≤ L.length + ks.length
  | [], L => Nat.le_refl _
  | x :: ks, L => by
    have h1 := fold_len ks (addL L x)
    have h2 := addL_len (L := L) (k := x)
    rw [List.foldl_cons, List.length_cons]
    omega
/-- set(a list | a tuple of whole numbers and texts) -/
def rSetOf (K : PySem.W.Frag) (w : World) : List V → Hp → VK → Prop := fun vs H Q => ∃ (l : Addr) (ks : List Key), vs = [.ref l] ∧ (SqL K H l (ks.map kV) ∨ SqT K H l (ks.map kV)) ∧ ks.length < 4000 ∧
  ∀ p, H p = none → Q (.ref p) (upd H p (SetM w p (once ks)))
theorem cr_setOf (hc : X.calm = true) : CallR X (.type "set") (rSetOf X.K X.w) := by
  intro pins s σ H vs us Q I r h
  obtain ⟨l, ks, rfl, hl, hn, q⟩ := h
  rw [Vals.ref1 r]
  obtain ⟨its, rv, sq⟩ : ∃ its, Vals (ks.map kV) its ∧ SeqAt s.heap l its := by
    rcases hl with hl | hl
    · obtain ⟨its, rv, p, _⟩ := I.list hl
      exact ⟨its, rv, .inl p.isList⟩
    · obtain ⟨its, rv, p, _⟩ := I.tuple hl
      exact ⟨its, rv, .inr p⟩
  have hi : ItemsAre (mixKind X.prog X.w) ks its := items_are rv
  have lk : its.length = ks.length := by
    have := rv.length
    rw [List.length_map] at this
    exact this.symm
  refine call_set_of (Z := fun i h => SetS X.w h s.heap.objs.size ((ks.take i).foldl addL [])) (I.ok.hd hc) sq (fun i h h' R k => R.keep k) (fun h' e => ?_) (adds_keys hi (by unfold scanBound; omega)) fun h' tk R old => ?_
  · have z := SetS.fresh (h := s.heap) X.w
    exact z.keep fun o e2 => by
      have e3 := Heap.get?_push_size s.heap (o := set0 X.w) rfl
      rw [show (some o) = some (set0 X.w) from e2.symm.trans e3]
      exact e
  · have e : (ks.take its.length) = ks := by rw [lk]; exact List.take_length
    have R' : SetS X.w h' s.heap.objs.size (once ks) := by
      have z : SetS X.w h' s.heap.objs.size ((ks.take its.length).foldl addL []) := R
      rw [e] at z
      exact z
    exact ⟨.ref s.heap.objs.size, _, I.laid (t' := tk) (fun b u e => old b u e) (Nat.le_refl _) (setM_ok R'), rfl, q _ (I.hok.fresh (Nat.le_refl _))⟩
end
/-! ### sorted -/
mutual
/-- the lists off which data are read are there -/
theorem reads_there {h : Heap} : ∀ (d : PyData) (v : Value) (as : List Addr), alike d d = true → Reads h v d as → ∀ b ∈ as, b < h.objs.size
  | .none, _, _, _, r => by cases r; simp
  | .bool _, _, _, _, r => by cases r; simp
  | .int _, _, _, _, r => by cases r; simp
  | .str _, _, _, _, r => by cases r; simp
  | .list xs, _, _, al, r => by
    cases r with
    | list h1 h2 h3 h4 =>
      intro b hb
      rcases List.mem_cons.mp hb with rfl | hb
      · exact Heap.lt_size h1
      · exact reads_thereAll xs _ _ (by simpa [alike] using al) h4 b hb
  | .tuple xs, _, _, al, r => by
    cases r with
    | tuple h1 h2 h3 h4 => exact reads_thereAll xs _ _ (by simpa [alike] using al) h4
  | .dict _, _, _, al, _ => absurd al (by simp [alike])
theorem reads_thereAll {h : Heap} : ∀ (ds : List PyData) (vs : List Value) (as : List Addr), alikeAll ds ds = true → ReadsAll h vs ds as → ∀ b ∈ as, b < h.objs.size
  | [], _, _, _, r => by cases r; simp
  | d :: ds, _, _, al, r => by
    cases r with
    | cons h1 h2 =>
      intro b hb
      rcases List.mem_append.mp hb with hb | hb
      · exact reads_there d _ _ (alike_all_cons al).1 h1 b hb
      · exact reads_thereAll ds _ _ (alike_all_cons al).2 h2 b hb
end
section
variable {P : Program} {w : World} {A : Around} {E : Value → Shared → Prop} {s : Shared} {α : Type} [DecidableEq α] [DatumOrd α]
/-- nothing later is less -/
def Up (zs : List α) : Prop := zs.Pairwise fun a b => DatumOrd.lt b a = false
theorem dataLe_alpha {β : Type} (f : β → α) (a b : β) : dataLe false (fun p => Datum.toD (f p)) a b = !DatumOrd.lt (f b) (f a) := by
  show (!dataLt (Datum.toD (f b)) (Datum.toD (f a))) = _
  rw [DatumOrd.lt_eq]
/-- sorted(x), where collecting x gives values that go with the pairs ps -/
theorem sorted_core {x : Value} {Kp : Shared → List Value → List (V × α) → Prop} {Q : Value → Shared → Prop} (hso : (∀ x : α, ∃ y r, Datum.toD x = .tuple (y :: r)) ∨ ∀ x : α, ∀ ys, Datum.toD x ≠ .tuple ys) (hu : A.units + 2 + Datum.depth α < cLine)
    (hcol : ∀ E' : Value → Shared → Prop, wpAny (model P w) A.in1 (collect x) (fun us s' => ∃ ps, Kp s' us ps) E' s)
    (hK : ∀ s' us ps, Kp s' us ps → EachIs (fun u p => RelV p.1 u) us ps ∧ HoldAll s'.heap us (ps.map Prod.snd) ∧ ps.length ≤ sizeLine ∧
      ∀ (out : List Value) (ps' : List (V × α)) (c : Nat) (h2 : Heap), ps'.Perm ps → Up (ps'.map Prod.snd) → EachIs (fun u p => RelV p.1 u) out ps' → h2.get? s'.heap.objs.size = some (seqObj "list" out.toArray c) → (∀ b o, s'.heap.get? b = some o → h2.get? b = some o) →
        Q (.ref s'.heap.objs.size) { s' with heap := h2 }) : wpAny (model P w) A (call (.builtin "sorted") [x]) Q E s := by
  refine Calls.call_function_entry kind_sorted plain_sorted entry_sorted (args_sorted1 _) ?_
  unfold Builtin.«sorted»
  refine wpAny_bind (m := checkCount "sorted" 1 1 _) (wpAny_pure (wpAny_bind (wpAny_mono (hcol _) (fun us s' hk => ?_) fun _ _ z => z)))
  obtain ⟨ps, k⟩ := hk
  obtain ⟨er, hh, hn, fin⟩ := hK s' us ps k
  have ul : us.length ≤ sizeLine := by rw [er.length]; exact hn
  refine wpAny_bind (wpAny_newList ?_ ul)
  have hL : (s'.heap.push (seqObj "list" us.toArray 0)).get? s'.heap.objs.size = some (seqObj "list" us.toArray 0) := Heap.get?_push_size _ rfl
  have al : AllAlike (ps.map fun p => Datum.toD p.2) := AllAlike.of fun a b => DatumOrd.alike a.2 b.2
  have so : Sortable (ps.map fun p => Datum.toD p.2) := by
    rcases hso with q | q
    · exact Sortable.tuples fun p => q p.2
    · exact Sortable.others fun p => ⟨DatumOrd.notNone p.2, q p.2⟩
  have rd : EachIs (fun v (p : V × α) => ∃ as, Reads (s'.heap.push (seqObj "list" us.toArray 0)) v (Datum.toD p.2) as ∧ s'.heap.objs.size ∉ as) us ps := by
    have keepL : ∀ b o, s'.heap.get? b = some o → (s'.heap.push (seqObj "list" us.toArray 0)).get? b = some o := fun _ _ q => Heap.get?_push_of_some _ q
    revert keepL
    generalize s'.heap.push (seqObj "list" us.toArray 0) = hq
    intro keepL
    clear er fin k hn ul al so hL
    induction ps generalizing us with
    | nil =>
      have := HoldAll.length hh
      have e : us = [] := List.length_eq_zero_iff.mp (by simpa using this)
      rw [e]
      exact .nil
    | cons p ps ih =>
      cases us with
      | nil =>
        have := HoldAll.length hh
        simp at this
      | cons u us =>
        obtain ⟨⟨as, h1⟩, h2⟩ := HoldAll.head hh
        refine .cons ⟨as, PyProof.Rows.Reads.keeps keepL h1, fun z => ?_⟩ ?_
        · exact Nat.lt_irrefl _ (reads_there _ _ _ (DatumOrd.alike p.2 p.2) h1 _ z)
        · exact ih us h2
  refine wpAny_bind (wpAny_holding (list_sort_data (R := fun u p => RelV p.1 u) (enc := fun p : V × α => Datum.toD p.2) hL er rd al so hn (fun p _ => ?_) fun out ol eo => ?_))
  · have := Datum.depth_le p.2
    show A.units + 1 + 1 + _ < cLine
    omega
  · obtain ⟨c, hc⟩ := sortedHeap_at (vs := us) (out := out.toArray) hL
    refine wpAny_pure ⟨_, rfl, fin out _ c _ (List.mergeSort_perm _ _) ?_ eo hc fun b o e => ?_⟩
    · have q := sort_pairwise (sortLe_total (listOrd itemOrd) false fun p : V × α => keyToks (Datum.toD p.2)) ps
      unfold Up
      rw [List.pairwise_map]
      refine q.imp fun {a b} z => ?_
      have z : dataLe false (fun p : V × α => Datum.toD p.2) a b = true := z
      rw [dataLe_alpha (fun p : V × α => p.2)] at z
      simpa using z
    · have lt := Heap.lt_size e
      rw [sortedHeap_old (Nat.ne_of_lt lt) (by rw [size_push']; exact Nat.lt_succ_of_lt lt)]
      exact Heap.get?_push_of_some _ e
end
section
variable {X : Cx}
/-- strictly upward -/
def AscS (ys : List Str) : Prop := ys.Pairwise fun a b => a.cps.toList < b.cps.toList
def AscI (ns : List Int) : Prop := ns.Pairwise (· < ·)
theorem str_ext {a b : Str} (h : a.cps.toList = b.cps.toList) : a = b := by
  cases a
  cases b
  simp at h
  rw [h]
theorem asc_of_up {ys : List Str} (h : Up ys) (nd : ys.Nodup) : AscS ys := by
  unfold AscS Up List.Nodup at *
  refine (h.and nd).imp fun {a b} ⟨h1, h2⟩ => ?_
  have h1 : ¬ b.cps.toList < a.cps.toList := of_decide_eq_false h1
  rcases Std.lt_trichotomy a.cps.toList b.cps.toList with z | z | z
  · exact z
  · exact absurd (str_ext z) h2
  · exact absurd z h1
theorem asc_of_upI {ys : List Int} (h : Up ys) (nd : ys.Nodup) : AscI ys := by
  unfold AscI Up List.Nodup at *
  refine (h.and nd).imp fun {a b} ⟨h1, h2⟩ => ?_
  have h1 : ¬ b < a := of_decide_eq_false h1
  omega
/-- the members of a set, as values with their keys -/
theorem collectM {A : Around} {E : Value → Shared → Prop} {s : Shared} {w : World} {P : Program} {a : Addr} {L : List Key} {Q : List Value → Shared → Prop} (hh : A.handled = none) (R : SetS w s.heap a L)
    (hQ : ∀ s' us ks, (∀ b o, s.heap.get? b = some o → s'.heap.get? b = some o) → s.heap.objs.size ≤ s'.heap.objs.size → s'.gens = s.gens → s'.os = s.os → ks.Perm L → EachIs (fun u k => keyIs k u = true) us ks → Q us s') : wpAny (model P w) A (collect (.ref a)) Q E s := by
  obtain ⟨o, es, ep, t, ⟨ho, hx, hd⟩, g, pm, nd, ⟨hb, hf⟩, ri, ld⟩ := R
  refine collect_set hh ⟨o, ho, hx.1, hd⟩ hf hb ri ld fun s' us k1 k2 k3 k4 pu => ?_
  have each : ∀ us : List Value, (∀ u ∈ us, ∃ e ∈ es.toList, e.2 = u) → EachIs (fun u k => keyIs k u = true) us (us.map fun u => keyE (0, u)) := by
    intro us
    induction us with
    | nil => exact fun _ => .nil
    | cons u us ih =>
      intro h
      obtain ⟨e, he, rfl⟩ := h u List.mem_cons_self
      exact .cons (g e he).1 (ih fun v hv => h v (List.mem_cons_of_mem _ hv))
  refine hQ s' us (us.map fun u => keyE (0, u)) k1 k2 k3 k4 ?_ (each us fun u hu => ?_)
  · have z := pu.map fun u => keyE (0, u)
    rw [List.map_map] at z
    exact z.trans pm
  · obtain ⟨e, he, q⟩ := List.mem_map.mp (pu.mem_iff.mp hu)
    exact ⟨e, he, q⟩

/-- sorted(a set of texts) -/
def rSortM (w : World) : List V → Hp → VK → Prop := fun vs H Q => ∃ (a : Addr) (L : List Key), vs = [.ref a] ∧ H a = some (SetM w a L) ∧ (∀ k ∈ L, ∃ z, k = Sum.inr z) ∧
  ∀ (ys : List Str) (p : Addr), AscS ys → (∀ z, z ∈ ys ↔ Sum.inr z ∈ L) → ys.length = L.length → H p = none → Q (.ref p) (upd H p (.lst (ys.map V.str)))
def rSortMI (w : World) : List V → Hp → VK → Prop := fun vs H Q => ∃ (a : Addr) (L : List Key), vs = [.ref a] ∧ H a = some (SetM w a L) ∧ (∀ k ∈ L, ∃ i, k = Sum.inl i) ∧
  ∀ (ns : List Int) (p : Addr), AscI ns → (∀ i, i ∈ ns ↔ Sum.inl i ∈ L) → ns.length = L.length → H p = none → Q (.ref p) (upd H p (.lst (ns.map V.int)))
theorem vals_each {α : Type} : ∀ {us : List Value} {ps : List (V × α)}, EachIs (fun u p => RelV p.1 u) us ps → Vals (ps.map Prod.fst) us
  | _, _, .nil => .nil
  | _, _, .cons h t => .cons h (vals_each t)
theorem keys_strs : ∀ {ks : List Key}, (∀ k ∈ ks, ∃ z, k = Sum.inr z) → ∃ zs : List Str, ks = zs.map Sum.inr
  | [], _ => ⟨[], rfl⟩
  | k :: ks, h => by
    obtain ⟨z, rfl⟩ := h k List.mem_cons_self
    obtain ⟨zs, e⟩ := keys_strs fun j hj => h j (List.mem_cons_of_mem _ hj)
    exact ⟨z :: zs, by rw [e, List.map_cons]⟩
theorem keys_ints : ∀ {ks : List Key}, (∀ k ∈ ks, ∃ i, k = Sum.inl i) → ∃ ns : List Int, ks = ns.map Sum.inl
  | [], _ => ⟨[], rfl⟩
  | k :: ks, h => by
    obtain ⟨z, rfl⟩ := h k List.mem_cons_self
    obtain ⟨zs, e⟩ := keys_ints fun j hj => h j (List.mem_cons_of_mem _ hj)
    exact ⟨z :: zs, by rw [e, List.map_cons]⟩
theorem strs_of {h : Heap} : ∀ {us : List Value} {zs : List Str}, EachIs (fun u k => keyIs k u = true) us (zs.map Sum.inr) → EachIs (fun u (p : V × Str) => RelV p.1 u) us (zs.map fun z => (V.str z, z)) ∧ HoldAll h us zs
  | _, [], r => by
    cases r
    exact ⟨.nil, HoldAll.nil⟩
  | _, z :: zs, r => by
    cases r with
    | cons h1 h2 =>
      rcases keyIs_shape h1 with ⟨i, t, e, rfl⟩ | ⟨x, t, e, rfl⟩
      · cases e
      · cases e
        obtain ⟨a, b⟩ := strs_of (h := h) h2
        exact ⟨.cons ⟨t, rfl⟩ a, HoldAll.cons (holds_str _ t) b⟩
theorem ints_of2 {h : Heap} : ∀ {us : List Value} {zs : List Int}, EachIs (fun u k => keyIs k u = true) us (zs.map Sum.inl) → EachIs (fun u (p : V × Int) => RelV p.1 u) us (zs.map fun z => (V.int z, z)) ∧ HoldAll h us zs
  | _, [], r => by
    cases r
    exact ⟨.nil, HoldAll.nil⟩
  | _, z :: zs, r => by
    cases r with
    | cons h1 h2 =>
      rcases keyIs_shape h1 with ⟨i, t, e, rfl⟩ | ⟨x, t, e, rfl⟩
      · cases e
        obtain ⟨a, b⟩ := ints_of2 (h := h) h2
        exact ⟨.cons ⟨t, rfl⟩ a, HoldAll.cons (holds_int _ t) b⟩
      · cases e
theorem first_of {α : Type} {f : α → V} {ps : List (V × α)} {zs : List α} (h : ps.Perm (zs.map fun z => (f z, z))) : ps.map Prod.fst = (ps.map Prod.snd).map f := by
  rw [List.map_map]
  refine List.map_congr_left fun p hp => ?_
  obtain ⟨z, _, e⟩ := List.mem_map.mp (h.mem_iff.mp hp)
  rw [← e]
  rfl
theorem second_of {α : Type} {f : α → V} {ps : List (V × α)} {zs : List α} (h : ps.Perm (zs.map fun z => (f z, z))) : (ps.map Prod.snd).Perm zs := by
  have z := h.map Prod.snd
  rw [List.map_map] at z
  have e : (Prod.snd ∘ fun z : α => (f z, z)) = id := rfl
  rw [e, List.map_id] at z
  exact z
theorem inr_nodup {zs : List Str} (h : (zs.map (Sum.inr : Str → Key)).Nodup) : zs.Nodup := by
  unfold List.Nodup at *
  rw [List.pairwise_map] at h
  exact h.imp fun n e => n (by rw [e])
theorem inl_nodup {zs : List Int} (h : (zs.map (Sum.inl : Int → Key)).Nodup) : zs.Nodup := by
  unfold List.Nodup at *
  rw [List.pairwise_map] at h
  exact h.imp fun n e => n (by rw [e])
theorem room2 {u : Nat} (h : u + 64 < cLine) {k : Nat} (hk : k ≤ 60) : u + 2 + k < cLine := by omega
theorem cr_sortedM (hc : X.calm = true) (hu : X.A.units + 64 < cLine) : CallR X (.builtin "sorted") (rSortM X.w) := by
  intro pins s σ H vs us Q I r h
  obtain ⟨a, L, rfl, ha, hL, q⟩ := h
  have R := setM_get I ha
  rw [Vals.ref1 r]
  have ndL : L.Nodup := by
    obtain ⟨_, _, _, _, _, _, _, z, _⟩ := R
    exact z
  refine sorted_core (α := Str) (Kp := fun s' us ps => ∃ zs : List Str, (zs.map Sum.inr).Perm L ∧ ps = zs.map (fun z => (V.str z, z)) ∧ EachIs (fun u (p : V × Str) => RelV p.1 u) us ps ∧ HoldAll s'.heap us zs ∧
      (∀ b o, s.heap.get? b = some o → s'.heap.get? b = some o) ∧ s.heap.objs.size ≤ s'.heap.objs.size ∧ s'.gens = s.gens ∧ s'.os = s.os) (.inr fun x ys e => nomatch e) (room2 hu (by decide)) (fun E' => ?_) fun s' us ps hk => ?_
  · refine collectM (A := X.A.in1) (I.ok.hd hc) R fun s' us ks k1 k2 k3 k4 pm er => ?_
    obtain ⟨zs, rfl⟩ := keys_strs (ks := ks) fun k hk => hL k (pm.mem_iff.mp hk)
    obtain ⟨e1, e2⟩ := strs_of (h := s'.heap) er
    exact ⟨_, zs, pm, rfl, e1, e2, k1, k2, k3, k4⟩
  · obtain ⟨zs, pm, rfl, e1, e2, k1, k2, k3, k4⟩ := hk
    have ll : zs.length = L.length := by rw [← pm.length_eq, List.length_map]
    have sz := R.size
    refine ⟨e1, by rw [List.map_map]; simpa [Function.comp_def] using e2, by rw [List.length_map, ll]; exact Nat.le_of_lt (Nat.lt_of_lt_of_le sz (by decide)), fun out ps' c h2 pp up er hg kp => ?_⟩
    have ey := first_of pp
    have py := second_of pp
    generalize hys : ps'.map Prod.snd = ys at *
    have nd : ys.Nodup := py.nodup_iff.mpr (inr_nodup (pm.nodup_iff.mpr ndL))
    have hv := vals_each er
    rw [ey] at hv
    have ly : ys.length = L.length := by rw [py.length_eq, ll]
    have kall : ∀ b o, s.heap.get? b = some o → h2.get? b = some o := fun b o e => kp b o (k1 b o e)
    have hn : H s'.heap.objs.size = none := I.hok.fresh k2
    have J : Inv X pins σ (upd H s'.heap.objs.size (.lst (ys.map V.str))) { s with heap := h2, gens := s'.gens, drawn := s'.drawn, toks := s'.toks } :=
      I.call (ch := []) (Un.laid kall k2 hn) (I.hok.laid kall k2 ⟨by rw [List.length_map, ly]; exact Nat.le_of_lt (Nat.lt_of_lt_of_le sz (by decide)), out, c, hv, hg⟩) (by rw [k3]; exact I.bare) (fun _ z => nomatch z)
    have e : ({ s' with heap := h2 } : Shared) = { s with heap := h2, gens := s'.gens, drawn := s'.drawn, toks := s'.toks } := by
      cases s'
      cases s
      cases k4
      rfl
    rw [e]
    refine ⟨.ref _, _, J, rfl, q ys _ (asc_of_up up nd) (fun z => ?_) ly hn⟩
    rw [py.mem_iff, ← pm.mem_iff, List.mem_map]
    exact ⟨fun h => ⟨z, h, rfl⟩, fun ⟨y, hy, e⟩ => by cases e; exact hy⟩
theorem cr_sortedMI (hc : X.calm = true) (hu : X.A.units + 64 < cLine) : CallR X (.builtin "sorted") (rSortMI X.w) := by
  intro pins s σ H vs us Q I r h
  obtain ⟨a, L, rfl, ha, hL, q⟩ := h
  have R := setM_get I ha
  rw [Vals.ref1 r]
  have ndL : L.Nodup := by
    obtain ⟨_, _, _, _, _, _, _, z, _⟩ := R
    exact z
  refine sorted_core (α := Int) (Kp := fun s' us ps => ∃ zs : List Int, (zs.map Sum.inl).Perm L ∧ ps = zs.map (fun z => (V.int z, z)) ∧ EachIs (fun u (p : V × Int) => RelV p.1 u) us ps ∧ HoldAll s'.heap us zs ∧
      (∀ b o, s.heap.get? b = some o → s'.heap.get? b = some o) ∧ s.heap.objs.size ≤ s'.heap.objs.size ∧ s'.gens = s.gens ∧ s'.os = s.os) (.inr fun x ys e => nomatch e) (room2 hu (by decide)) (fun E' => ?_) fun s' us ps hk => ?_
  · refine collectM (A := X.A.in1) (I.ok.hd hc) R fun s' us ks k1 k2 k3 k4 pm er => ?_
    obtain ⟨zs, rfl⟩ := keys_ints (ks := ks) fun k hk => hL k (pm.mem_iff.mp hk)
    obtain ⟨e1, e2⟩ := ints_of2 (h := s'.heap) er
    exact ⟨_, zs, pm, rfl, e1, e2, k1, k2, k3, k4⟩
  · obtain ⟨zs, pm, rfl, e1, e2, k1, k2, k3, k4⟩ := hk
    have ll : zs.length = L.length := by rw [← pm.length_eq, List.length_map]
    have sz := R.size
    refine ⟨e1, by rw [List.map_map]; simpa [Function.comp_def] using e2, by rw [List.length_map, ll]; exact Nat.le_of_lt (Nat.lt_of_lt_of_le sz (by decide)), fun out ps' c h2 pp up er hg kp => ?_⟩
    have ey := first_of pp
    have py := second_of pp
    generalize hys : ps'.map Prod.snd = ys at *
    have nd : ys.Nodup := py.nodup_iff.mpr (inl_nodup (pm.nodup_iff.mpr ndL))
    have hv := vals_each er
    rw [ey] at hv
    have ly : ys.length = L.length := by rw [py.length_eq, ll]
    have kall : ∀ b o, s.heap.get? b = some o → h2.get? b = some o := fun b o e => kp b o (k1 b o e)
    have hn : H s'.heap.objs.size = none := I.hok.fresh k2
    have J : Inv X pins σ (upd H s'.heap.objs.size (.lst (ys.map V.int))) { s with heap := h2, gens := s'.gens, drawn := s'.drawn, toks := s'.toks } :=
      I.call (ch := []) (Un.laid kall k2 hn) (I.hok.laid kall k2 ⟨by rw [List.length_map, ly]; exact Nat.le_of_lt (Nat.lt_of_lt_of_le sz (by decide)), out, c, hv, hg⟩) (by rw [k3]; exact I.bare) (fun _ z => nomatch z)
    have e : ({ s' with heap := h2 } : Shared) = { s with heap := h2, gens := s'.gens, drawn := s'.drawn, toks := s'.toks } := by
      cases s'
      cases s
      cases k4
      rfl
    rw [e]
    refine ⟨.ref _, _, J, rfl, q ys _ (asc_of_upI up nd) (fun z => ?_) ly hn⟩
    rw [py.mem_iff, ← pm.mem_iff, List.mem_map]
    exact ⟨fun h => ⟨z, h, rfl⟩, fun ⟨y, hy, e⟩ => by cases e; exact hy⟩
end
end NC
-- NcComp
set_option Elab.async false
set_option linter.all false
set_option maxRecDepth 100000
set_option maxHeartbeats 4000000
/-! {elt for a in .. for b in ..}: a set of texts or whole numbers that two clauses make. -/
namespace NC
open PySem PySem.Spec PyProof.Rows L2
section
variable {P : Program} {w : World} {A : Around} {R : Result → Shared → Prop} {s : Shared} {elt a0 x0 a1 x1 : Expr} {c0 c1 : List Expr} {sc : Scope} {pos : Pos} {it acc : Value} {env : Env}
/-- the comprehension -/
abbrev sc2 (elt a0 x0 a1 x1 : Expr) (c0 c1 : List Expr) (sc : Scope) (pos : Pos) : Expr := .SetComp elt [⟨a0, x0, c0, 0⟩, ⟨a1, x1, c1, 0⟩] sc pos
/-- an error is told to the frame, then to the end -/
abbrev Nt (P : Program) (w : World) (A : Around) (env : Env) (R : Result → Shared → Prop) : Value → Shared → Prop := notedBy (model P w) A env fun x s' => R (.error x) s'
/-- a clause's tests, one by one -/
abbrev tests (cs : List Expr) (env : Env) : Sem Bool := forIn cs true fun c r => if r = true then do
    let ok ← isTrue c env (eval c env)
    pure (ForInStep.yield ok)
  else pure (ForInStep.yield r)
theorem turn_out : compTurn (sc2 elt a0 x0 a1 x1 c0 c1 sc pos) 0 it acc env = (do
    standAt x0.pos
    match ← pyNext it with
    | none => pure (.done .next)
    | some v =>
      letOwnedTupleGo a0 it v
      assign a0 env v
      let ok ← tests c0 env
      if ok then
        let x ← eval x1 env
        standAt x1.pos
        let x ← foldedSetIterable x1 env x
        let _ ← runOwn (.compStart (sc2 elt a0 x0 a1 x1 c0 c1 sc pos) 1 (← holding [x] (pyIter x)) acc env) env
      again (.compLoop (sc2 elt a0 x0 a1 x1 c0 c1 sc pos) 0 it acc env)) := by rfl
theorem turn_in : compTurn (sc2 elt a0 x0 a1 x1 c0 c1 sc pos) 1 it acc env = (do
    standAt x1.pos
    match ← pyNext it with
    | none => pure (.done .next)
    | some v =>
      letOwnedTupleGo a1 it v
      assign a1 env v
      let ok ← tests c1 env
      if ok then
        (do let v ← eval elt env; standAt elt.pos; let _ ← call (.builtin "set.add") [acc, v])
      again (.compLoop (sc2 elt a0 x0 a1 x1 c0 c1 sc pos) 1 it acc env)) := by rfl
/-- what a turn of a clause's loop asks: an item is stored, the tests are asked, then the body -/
def Ask (P : Program) (w : World) (A : Around) (a : Expr) (cs : List Expr) (it : Value) (env : Env) (R : Result → Shared → Prop) (Again : Shared → Prop) (Body : Shared → Prop) (s : Shared) : Prop :=
  wpAny (model P w) A (pyNext it) (fun r s1 => match r with
    | none => R (.ok .next) s1
    | some v => wpAny (model P w) A (letOwnedTupleGo a it v) (fun _ s2 => wpAny (model P w) A (assign a env v) (fun _ s3 => wpAny (model P w) A (tests cs env) (fun ok s4 => if ok = true then Body s4 else Again s4) (Nt P w A env R) s3) (Nt P w A env R) s2) (Nt P w A env R) s1) (Nt P w A env R) s
theorem run_out (hs : ∀ x, foldedSetIterable x1 env x = pure x) (J : Nat → Shared → Prop)
    (turn : ∀ n s, J n s → Ask P w A a0 c0 it env R (fun s' => ∃ m, m < n ∧ J m s') (fun s4 => wpAny (model P w) A (eval x1 env) (fun x s5 => wpAny (model P w) A (pyIter x) (fun j s6 =>
      codeAny (model P w) A (.compStart (sc2 elt a0 x0 a1 x1 c0 c1 sc pos) 1 j acc env) (fun r s' => match r with
        | .ok _ => ∃ m, m < n ∧ J m s'
        | .error _ => False) s6) (Nt P w A env R) s5) (Nt P w A env R) s4) s) (n : Nat) (h : J n s) :
    codeAny (model P w) A (.compLoop (sc2 elt a0 x0 a1 x1 c0 c1 sc pos) 0 it acc env) R s := by
  refine codeAny_loop rfl J (fun n s hJ => ?_) n h
  show wpAny _ A ((compTurn (sc2 elt a0 x0 a1 x1 c0 c1 sc pos) 0 it acc env).onRaise (fun x => do noteFrame x env; theTreesLotGoes x)) _ _ s
  refine wpAny_noted ?_
  rw [turn_out]
  refine wpAny_bind (wpAny_standAt (wpAny_bind (wpAny_mono (turn n s hJ) (fun r s1 h1 => ?_) fun _ _ z => z)))
  cases r with
  | none => exact wpAny_pure h1
  | some v =>
    refine wpAny_bind (wpAny_mono h1 (fun _ s2 h2 => wpAny_bind (wpAny_mono h2 (fun _ s3 h3 => wpAny_bind (wpAny_mono h3 (fun ok s4 h4 => ?_) fun _ _ z => z)) fun _ _ z => z)) fun _ _ z => z)
    cases ok with
    | false => exact wpAny_pure ⟨rfl, h4⟩
    | true =>
      refine wpAny_bind (wpAny_mono h4 (fun x s5 h5 => wpAny_bind (wpAny_standAt (wpAny_bind (wpAny_of_eq (hs x) (wpAny_bind (wpAny_holding (wpAny_mono h5 (fun j s6 h6 => wpAny_bind (wpAny_runOwn ?_)) fun _ _ z => z))))))) fun _ _ z => z)
      rw [Around.mark_none]
      refine codeAny_mono h6 fun r s' hr => ?_
      cases r with
      | ok f =>
        first
          | exact wpAny_pure ⟨rfl, hr⟩
          | exact wpAny_bind (wpAny_pure (wpAny_pure ⟨rfl, hr⟩))
      | error e => exact hr.elim
theorem run_in (J : Nat → Shared → Prop)
    (turn : ∀ n s, J n s → Ask P w A a1 c1 it env R (fun s' => ∃ m, m < n ∧ J m s') (fun s4 => wpAny (model P w) A (eval elt env) (fun v s5 => wpAny (model P w) A (call (.builtin "set.add") [acc, v]) (fun _ s6 => ∃ m, m < n ∧ J m s6) (Nt P w A env R) s5) (Nt P w A env R) s4) s) (n : Nat) (h : J n s) :
    codeAny (model P w) A (.compLoop (sc2 elt a0 x0 a1 x1 c0 c1 sc pos) 1 it acc env) R s := by
  refine codeAny_loop rfl J (fun n s hJ => ?_) n h
  show wpAny _ A ((compTurn (sc2 elt a0 x0 a1 x1 c0 c1 sc pos) 1 it acc env).onRaise (fun x => do noteFrame x env; theTreesLotGoes x)) _ _ s
  refine wpAny_noted ?_
  rw [turn_in]
  refine wpAny_bind (wpAny_standAt (wpAny_bind (wpAny_mono (turn n s hJ) (fun r s1 h1 => ?_) fun _ _ z => z)))
  cases r with
  | none => exact wpAny_pure h1
  | some v =>
    refine wpAny_bind (wpAny_mono h1 (fun _ s2 h2 => wpAny_bind (wpAny_mono h2 (fun _ s3 h3 => wpAny_bind (wpAny_mono h3 (fun ok s4 h4 => ?_) fun _ _ z => z)) fun _ _ z => z)) fun _ _ z => z)
    cases ok with
    | false => exact wpAny_pure ⟨rfl, h4⟩
    | true => exact wpAny_bind (wpAny_bind (wpAny_mono h4 (fun v s5 h5 => wpAny_bind (wpAny_standAt (wpAny_bind (wpAny_mono h5 (fun _ s6 h6 => wpAny_pure (wpAny_pure ⟨rfl, h6⟩)) fun _ _ z => z)))) fun _ _ z => z))
/-- a clause's start: the loop over the iterator itself, or over its own iterator -/
theorem start_ok {k : Nat} (hk : k < 2) (h0 : codeAny (model P w) A (.compLoop (sc2 elt a0 x0 a1 x1 c0 c1 sc pos) k it acc env) R s)
    (h : wpAny (model P w) A (pyIter it) (fun j s' => codeAny (model P w) A (.compLoop (sc2 elt a0 x0 a1 x1 c0 c1 sc pos) k j acc env) R s') (Nt P w A env R) s) :
    codeAny (model P w) A (.compStart (sc2 elt a0 x0 a1 x1 c0 c1 sc pos) k it acc env) R s := by
  refine codeAny_of_tree ?_
  show wpAny _ _ ((compStart (sc2 elt a0 x0 a1 x1 c0 c1 sc pos) k it acc env).onRaise (fun x => do noteFrame x env; standAt theWindowsPlace)) _ _ s
  refine wpAny_notedAt ?_
  unfold compStart
  have go : ∀ p : Pos, wpAny (model P w) A (standAt p >>= fun _ => pyIter it >>= fun j => pure (Fin.again (.compLoop (sc2 elt a0 x0 a1 x1 c0 c1 sc pos) k j acc env))) (fun f s' => match f with
      | .done q => R (.ok q) s'
      | .again c => c.quiet = true ∧ codeAny (model P w) A c R s') (Nt P w A env R) s := fun p => wpAny_bind (wpAny_standAt (wpAny_bind (wpAny_mono h (fun j s' q => wpAny_pure (And.intro rfl q)) fun _ _ z => z)))
  obtain rfl | rfl : k = 0 ∨ k = 1 := by omega
  all_goals
    show wpAny _ _ (ask >>= _) _ _ s
    refine wpAny_bind (wpAny_askSetting (wpAny_ite ?_))
    split
    · first
        | exact wpAny_bind (wpAny_pure (wpAny_pure (And.intro rfl h0)))
        | exact wpAny_pure (And.intro rfl h0)
    · exact wpAny_bind (wpAny_rule (go _))
end
section
variable {X : Cx}
/-- what the inner clause is to do for one item of the outer one: from H on, ending in Nx -/
def Inner (w : World) (wi1 : TI) (g1 : TG) (tt1 : TT) (te : TE) (vs1 : List Nat) (D : Addr) (σ2 : L2.St) (H3 : Hp) (Nx : Hp → Prop) : Prop := wi1 σ2 H3 fun J1 H4 => ∃ W1 : Nat → Nat → Hp → Prop, (∃ m, W1 0 m H4) ∧ ∀ j k H, W1 j k H →
  (J1.stop j H ∧ Nx H) ∨ (J1.go j H ∧ ∃ N1 : Hp → Prop, (∀ H', N1 H' → ∃ k', k' < k ∧ W1 (j + 1) k' H') ∧ ∀ x H', J1.yld j H x H' → g1 x (wipe σ2 vs1) H' fun σ3 H5 => wipe σ3 vs1 = wipe σ2 vs1 ∧ tt1 σ3 H5 fun b H6 =>
    if b = true then te σ3 H6 fun y H7 => ∃ (k : Key) (L : List Key), y = kV k ∧ H7 D = some (SetM w D L) ∧ L.length + 1 < scanBound ∧ N1 (upd H7 D (SetM w D (addL L k))) else N1 H6)
/-- {elt for a in .. for b in ..}: D the new set -/
def tSc2 (w : World) (wi : TI) (g : TG) (tt : TT) (wi1 : TI) (g1 : TG) (tt1 : TT) (te : TE) (vs vs1 : List Nat) : TE := fun σ H Q => wi σ H fun J H1 => ∀ D, H1 D = none → ∃ W : Nat → Nat → Hp → Prop, (∃ m, W 0 m (upd H1 D (SetM w D []))) ∧ ∀ i m H, W i m H →
  (J.stop i H ∧ Q (.ref D) H) ∨ (J.go i H ∧ ∃ Nx : Hp → Prop, (∀ H', Nx H' → ∃ m', m' < m ∧ W (i + 1) m' H') ∧ ∀ x H', J.yld i H x H' → g x (wipe σ vs) H' fun σ2 H2 => wipe σ2 vs = wipe σ vs ∧ tt σ2 H2 fun b H3 =>
    if b = true then Inner w wi1 g1 tt1 te vs1 D σ2 H3 Nx else Nx H3)
/-- anything of the block, whatever its start was -/
abbrev AllBlk (X : Cx) (sc : Scope) (F : Cx → Prop) : Prop := ∀ (s : Shared) (H : Hp) (C : Addr) (cl : List (Str × Addr)) (fp : List Addr), F (X.blk s H sc (compEnvC sc cl C X.env) fp)
theorem pe_sc2 {elt a0 x0 a1 x1 : Expr} {c0 c1 : List Expr} {sc : Scope} {own : List (Str × Nat)} {vs1 : List Nat} {pos : Pos} {wi wi1 : TI} {g g1 : TG} {tt tt1 : TT} {te : TE} (hc : X.calm = true) (hN : X.N.Nodup) (hi : PI X a0 x0 wi) (ok : BlkOk X.N X.env.scope sc own) (hv : ∀ i ∈ vs1, i ∈ own.map (·.2))
    (hg : AllBlk X sc fun B => PG B a0 g) (ht : AllBlk X sc fun B => PTs B c0 tt) (hi1 : AllBlk X sc fun B => PI B a1 x1 wi1) (hg1 : AllBlk X sc fun B => PG B a1 g1) (ht1 : AllBlk X sc fun B => PTs B c1 tt1) (he : AllBlk X sc fun B => PE B elt te)
    (hs : ∀ x, foldedSetIterable x0 X.env x = pure x := by intro _; rfl) (hs1 : ∀ env x, foldedSetIterable x1 env x = pure x := by intro _ _; rfl) :
    PE X (.SetComp elt [⟨a0, x0, c0, 0⟩, ⟨a1, x1, c1, 0⟩] sc pos) (tSc2 X.w wi g tt wi1 g1 tt1 te (own.map (·.2)) vs1) := by
  refine ⟨fun pins s σ H Q I h => ?_⟩
  rw [PpSet.eval_SetComp]
  have frees : ∀ y ∈ sc.names, y.2 = .free → ∃ c, X.env.cells.lookup y.1 = some c := fun y hy e => (ok.free y hy e).elim (fun k => I.ok.has _ (.inl k)) fun k => I.ok.has _ (.inr k)
  refine wpAny_comprehension_free (use := none) rfl hs (closure_ok frees) ok.kind (fun y hy e => by rw [ok.uniq y hy, e]) (thn (hi.run pins s σ H _ I h) fun _ _ h1 => thn h1 fun _ s2 h2 => ?_)
  obtain ⟨it, fp, tn, J, H2, rfl, I2, T, st2, f2, q⟩ := h2
  refine PpSet.newSet_ok (newEnv_comp ?_)
  -- the new set
  obtain ⟨D, hD⟩ : ∃ D, s2.heap.objs.size = D := ⟨_, rfl⟩
  obtain ⟨W, ⟨m0, w0⟩, turn⟩ := q D (I2.hok.fresh (Nat.le_of_eq hD))
  rw [hD]
  obtain ⟨s3, hs3⟩ : ∃ s3 : Shared, { s2 with heap := s2.heap.push (set0 X.w) } = s3 := ⟨_, rfl⟩
  have e3 : s3.heap = s2.heap.push (set0 X.w) := by rw [← hs3]
  have I3 : Inv X pins σ (upd H2 D (SetM X.w D [])) s3 := by
    rw [← hs3]
    refine I2.laid (t' := s2.toks) (fun b o e => Heap.get?_push_of_some _ e) (Nat.le_of_eq hD) ?_
    rw [← hD]
    exact setM_ok (SetS.fresh X.w)
  have low : ∀ b ∈ fp, b < s2.heap.objs.size := fun b hb => let ⟨_, e, _⟩ := T.obj _ _ st2 b hb; Heap.lt_size e
  have f3 : ∀ b ∈ fp, FpOk X pins (upd H2 D (SetM X.w D [])) b ∧ b < s3.heap.objs.size := fun b hb =>
    ⟨⟨(upd_ne (by rw [← hD]; exact Nat.ne_of_lt (low b hb))).trans (f2 b hb).1, (f2 b hb).2⟩, by rw [e3, Heap.size_push]; exact Nat.lt_succ_of_lt (low b hb)⟩
  have st3 : tn 0 s3.heap := T.keep _ _ _ st2 fun b _ o e => by rw [e3]; exact Heap.get?_push_of_some _ e
  -- the block
  have I4 := block_start I3 ok hN f3
  obtain ⟨H3, hH3⟩ : ∃ H3, upd H2 D (SetM X.w D []) = H3 := ⟨_, rfl⟩
  rw [hH3] at I3 I4 f3 w0
  obtain ⟨C, hC⟩ : ∃ C, s3.heap.objs.size = C := ⟨_, rfl⟩
  obtain ⟨cl, hcl⟩ : ∃ cl, cellsFrom (s3.heap.objs.size + 1) sc.names (cloFrom X.env.cells sc.names []) = cl := ⟨_, rfl⟩
  have pg := hg s3 H3 C cl fp
  have pt := ht s3 H3 C cl fp
  have pi1 := hi1 s3 H3 C cl fp
  have pg1 := hg1 s3 H3 C cl fp
  have pt1 := ht1 s3 H3 C cl fp
  have pe := he s3 H3 C cl fp
  change codeAny _ _ (.compStart (sc2 elt a0 x0 a1 x1 c0 c1 sc pos) 0 (.ref it) (.ref D) (compEnvC sc (cellsFrom (({ s2 with heap := s2.heap.push (set0 X.w) } : Shared).heap.objs.size + 1) sc.names (cloFrom X.env.cells sc.names [])) ({ s2 with heap := s2.heap.push (set0 X.w) } : Shared).heap.objs.size X.env))
    (compPost (model X.prog X.w) X.A X.xe none _ (.ref D) ({ s2 with heap := s2.heap.push (set0 X.w) } : Shared).heap.objs.size)
    { ({ s2 with heap := s2.heap.push (set0 X.w) } : Shared) with heap := pushCells (({ s2 with heap := s2.heap.push (set0 X.w) } : Shared).heap.push { cls := .type "dict", data := .dict #[] }) sc.names }
  rw [hs3, hcl, hC]
  rw [hcl, hC] at I4
  obtain ⟨ce, hce⟩ : ∃ ce, compEnvC sc cl C X.env = ce := ⟨_, rfl⟩
  rw [hce] at I4 pg pt pi1 pg1 pt1 pe ⊢
  have cL : ce.locals = C := by rw [← hce]; rfl
  obtain ⟨s4, hs4⟩ : ∃ s4 : Shared, { s3 with heap := pushCells (s3.heap.push { cls := .type "dict", data := .dict #[] }) sc.names } = s4 := ⟨_, rfl⟩
  rw [hs4] at I4 ⊢
  have st4 : tn 0 s4.heap := T.keep _ _ _ st3 fun b _ o e => by rw [← hs4]; exact pushCells_keeps _ _ _ _ (Heap.get?_push_of_some _ e)
  have fps : ∀ {σ' : L2.St} {H' : Hp} {s' : Shared}, Inv (X.blk s3 H3 sc ce fp) [] σ' H' s' → (∀ b ∈ fp, H' b = none) → ∀ b ∈ fp, FpOk (X.blk s3 H3 sc ce fp) [] H' b := fun Iq n b hb =>
    ⟨n b hb, (Iq.ok.exf b hb).1, Iq.ok.exfs b hb, .inl hb, fun x c e => (Iq.ok.exf b hb).2 x c e, fun p hp => absurd (show p ∈ ([] : List (Addr × Obj)) from hp) (by simp)⟩
  -- where a turn of the outer loop begins
  let Top : Nat → Shared → Prop := fun n s' => ∃ i H', Inv (X.blk s3 H3 sc ce fp) [] (wipe σ (own.map (·.2))) H' s' ∧ tn i s'.heap ∧ (∀ b ∈ fp, H' b = none) ∧ W i n H'
  have loop : codeAny (model X.prog X.w) X.A (.compLoop (sc2 elt a0 x0 a1 x1 c0 c1 sc pos) 0 (.ref it) (.ref D) ce) (compPost (model X.prog X.w) X.A X.xe none (fun v s' => ∃ x H', Inv X pins σ H' s' ∧ RelV x v ∧ Q x H') (.ref D) C) s4 := by
    refine run_out (hs1 ce) Top ?_ m0 ⟨0, H3, I4, st4, fun b hb => (f3 b hb).1.1, w0⟩
    rintro n s5 ⟨i, H5, I5, st5, n5, w5⟩
    rcases turn i n H5 w5 with ⟨stop, fin⟩ | ⟨go, Nx, hNx, step⟩
    · -- the end: back in the def
      refine thnF (T.done (X.blk s3 H3 sc ce fp) rfl rfl rfl hc i [] s5 _ H5 (fun _ _ => False) I5 (fps I5 n5) st5 stop) fun r s6 ⟨hr, I6⟩ => ?_
      subst hr
      have I7 : Inv X pins σ H5 s6 := I3.call' (ch := fp) I6.os I6.base I6.hok I6.bare fun b hb => ⟨(f3 b hb).1.2.2.2.1, (f3 b hb).1.2.1, (f3 b hb).1.2.2.2.2.1, (f3 b hb).1.2.2.2.2.2⟩
      have nC : H5 C = none := by
        rw [← cL]
        exact I6.free
      obtain ⟨m, hm, _⟩ := I6.loc
      have hm : s6.heap.Ns ce.locals m := hm
      rw [cL] at hm
      refine ⟨m, hm, fun h'' sb => ?_⟩
      obtain ⟨f0, f1, f2, f3, f4, f5⟩ := I3.fpOk (Nat.le_of_eq hC) nC
      exact ⟨.ref D, H5, I7.turned (t' := s6.toks) (fun b o hb e => (sb.2 b hb).trans e) f0 f1 f3 f4 f5, rfl, fin⟩
    · refine thnF (T.item (X.blk s3 H3 sc ce fp) rfl rfl rfl hc i [] s5 _ H5 (fun _ _ => False) I5 (fps I5 n5) st5 go) fun r s6 ⟨u, hr, h6⟩ => ?_
      subst hr
      refine thnF h6 fun _ s7 ⟨x, H7, I7, r7, y7, st7, n7⟩ => ?_
      have I8 := I7.pinned (fps I7 n7) (T.obj _ _ st7)
      refine thnF (pg.run _ s7 _ H7 x u _ I8 r7 (step x H7 y7)) fun _ s8 ⟨σ8, H8, I8', hw8, q8⟩ => ?_
      refine thnF (pt.run _ s8 σ8 H8 _ I8' q8) fun b s9 ⟨H9, I9, q9⟩ => ?_
      have len8 : (wipe σ (own.map (·.2))).length = σ8.length := by rw [← hw8, wipe_length]
      have known8 : ∀ (j : Nat) v, (wipe σ (own.map (·.2)))[j]? = some (some v) → σ8[j]? = some (some v) ∧ (wipe σ8 vs1)[j]? = some (some v) := fun j v e => by
        rw [← hw8] at e
        obtain ⟨e1, e2⟩ := wipe_some e
        exact ⟨e1, (wipe_out fun z => e2 (hv j z)).trans e1⟩
      -- the next turn's beginning
      have next : ∀ {σ9 : L2.St} {s' : Shared} {H' : Hp}, Inv (X.blk s3 H3 sc ce fp) ([] ++ pinsAt fp s7.heap) σ9 H' s' → (wipe σ (own.map (·.2))).length = σ9.length → (∀ (j : Nat) v, (wipe σ (own.map (·.2)))[j]? = some (some v) → σ9[j]? = some (some v)) → Nx H' → ∃ m, m < n ∧ Top m s' := fun {σ9 s' H'} Iq hl hk nx => by
        obtain ⟨m', hm, w'⟩ := hNx H' nx
        have pin : ∀ b ∈ fp, ∀ o, s7.heap.get? b = some o → s'.heap.get? b = some o ∧ H' b = none := fun b hb o e =>
          let z := Iq.pin (b, o) (List.mem_append_right _ (List.mem_append_right _ (mem_pinsAt hb e)))
          ⟨z.1, z.2.1⟩
        exact ⟨m', hm, i + 1, H', (Iq.unpinned (pins := [])).weak hl hk, T.keep _ _ _ st7 fun b hb o e => (pin b hb o e).1, fun b hb => let ⟨o, e, _⟩ := T.obj _ _ st7 b hb; (pin b hb o e).2, w'⟩
      cases b with
      | false =>
        rw [if_neg Bool.false_ne_true] at q9
        exact next I9 len8 (fun j v e => (known8 j v e).1) q9
      | true =>
        rw [if_pos rfl] at q9
        show wpAny _ _ (eval x1 ce) _ _ s9
        refine thnF (pi1.run _ s9 σ8 H9 _ I9 q9) fun _ s10 h10 => thnF h10 fun _ s11 h11 => ?_
        obtain ⟨it1, fp1, tn1, J1, H11, rfl, I11, T1, st11, f11, W1, ⟨m1, w1⟩, turn1⟩ := h11
        have fps1 : ∀ {H' : Hp}, (∀ b ∈ fp1, H' b = none) → ∀ b ∈ fp1, FpOk (X.blk s3 H3 sc ce fp) ([] ++ pinsAt fp s7.heap) H' b := fun nq b hb => ⟨nq b hb, (f11 b hb).2⟩
        let Top1 : Nat → Shared → Prop := fun k s' => ∃ j H', Inv (X.blk s3 H3 sc ce fp) ([] ++ pinsAt fp s7.heap) (wipe σ8 vs1) H' s' ∧ tn1 j s'.heap ∧ (∀ b ∈ fp1, H' b = none) ∧ W1 j k H'
        have loop1 : codeAny (model X.prog X.w) X.A (.compLoop (sc2 elt a0 x0 a1 x1 c0 c1 sc pos) 1 (.ref it1) (.ref D) ce) (fun r s' => match r with
            | .ok _ => ∃ m, m < n ∧ Top m s'
            | .error _ => False) s11 := by
          refine run_in Top1 ?_ m1 ⟨0, H11, I11.weak (wipe_length _ _) (fun j v e => (wipe_some e).1), st11, fun b hb => (f11 b hb).1, w1⟩
          rintro k s12 ⟨j, H12, I12, st12, n12, w12⟩
          rcases turn1 j k H12 w12 with ⟨stop1, nx1⟩ | ⟨go1, N1, hN1, step1⟩
          · refine thnF (T1.done (X.blk s3 H3 sc ce fp) rfl rfl rfl hc j _ s12 (wipe σ8 vs1) H12 (fun _ _ => False) I12 (fps1 n12) st12 stop1) fun r s13 ⟨hr, I13⟩ => ?_
            subst hr
            exact next I13 (len8.trans (wipe_length σ8 vs1).symm) (fun j v e => (known8 j v e).2) nx1
          · refine thnF (T1.item (X.blk s3 H3 sc ce fp) rfl rfl rfl hc j _ s12 (wipe σ8 vs1) H12 (fun _ _ => False) I12 (fps1 n12) st12 go1) fun r s13 ⟨u1, hr, h13⟩ => ?_
            subst hr
            refine thnF h13 fun _ s14 ⟨y, H14, I14, r14, y14, st14, n14⟩ => ?_
            have I15 := I14.pinned (fps1 n14) (T1.obj _ _ st14)
            refine thnF (pg1.run _ s14 (wipe σ8 vs1) H14 y u1 _ I15 r14 (step1 y H14 y14)) fun _ s15 ⟨σ15, H15, I15', hw15, q15⟩ => ?_
            refine thnF (pt1.run _ s15 σ15 H15 _ I15' q15) fun b1 s16 ⟨H16, I16, q16⟩ => ?_
            have next1 : ∀ {s' : Shared} {H' : Hp}, Inv (X.blk s3 H3 sc ce fp) (([] ++ pinsAt fp s7.heap) ++ pinsAt fp1 s14.heap) σ15 H' s' → N1 H' → ∃ m, m < k ∧ Top1 m s' := fun {s' H'} Iq nx => by
              obtain ⟨m', hm, w'⟩ := hN1 H' nx
              have pin : ∀ b ∈ fp1, ∀ o, s14.heap.get? b = some o → s'.heap.get? b = some o ∧ H' b = none := fun b hb o e =>
                let z := Iq.pin (b, o) (List.mem_append_right _ (List.mem_append_right _ (mem_pinsAt hb e)))
                ⟨z.1, z.2.1⟩
              exact ⟨m', hm, j + 1, H', Iq.unpinned.weak (by rw [← hw15, wipe_length]) (fun j v e => by rw [← hw15] at e; exact (wipe_some e).1), T1.keep _ _ _ st14 fun b hb o e => (pin b hb o e).1,
                fun b hb => let ⟨o, e, _⟩ := T1.obj _ _ st14 b hb; (pin b hb o e).2, w'⟩
            cases b1 with
            | false =>
              rw [if_neg Bool.false_ne_true] at q16
              exact next1 I16 q16
            | true =>
              rw [if_pos rfl] at q16
              show wpAny _ _ (eval elt ce) _ _ s16
              refine thnF (pe.run _ s16 σ15 H16 _ I16 q16) fun z s17 ⟨yv, H17, I17, r17, ky, L, ey, hD17, room, nx⟩ => ?_
              subst ey
              exact addM (X := X.blk s3 H3 sc ce fp) I17 hD17 (kV_is (P := X.prog) (w := X.w) r17) room fun s18 I18 => next1 I18 nx
        exact start_ok (by decide) loop1 (T1.self X.A 0 _ _ _ st11 loop1)
  exact start_ok (by decide) loop (T.self X.A 0 _ _ _ st4 loop)
end
end NC
-- NcIter
set_option Elab.async false
set_option linter.all false
set_option maxRecDepth 100000
set_option maxHeartbeats 4000000
/-! for .. in d.items() of a dict with tuple keys; for i, x in enumerate(a tuple). -/
namespace NC
open PySem PySem.Spec PyProof.Rows L2
section
variable {P : Program} {w : World} {K : PySem.W.Frag} {X : Cx} {pins : List (Addr × Obj)} {σ : L2.St} {H : Hp} {s : Shared}
/-- the pairs of a locked dict with tuple keys, each a new tuple -/
def ItiT (d : Addr) (o : Obj) (kvs : List (List Key × V)) : It :=
  ⟨fun i H => H d = some (.frz o (.dT kvs)) ∧ i < kvs.length, fun i H x H' => ∃ T q k v, kvs[i]? = some (k, v) ∧ H q = some (.tup (k.map kV)) ∧ x = .ref T ∧ H T = none ∧ H' = upd H T (.tup [.ref q, v]), fun i H => H d = some (.frz o (.dT kvs)) ∧ kvs.length ≤ i⟩
theorem rowsT {d : Addr} {o : Obj} {kvs : List (List Key × V)} (I : Inv X pins σ H s) (h : H d = some (.frz o (.dT kvs))) : (d == sysModules) = false ∧ s.heap.get? d = some o ∧ o.ExactDict ∧ ∃ (es : Array DictEntry) (ep : Nat), o.data = .dict es ep ∧ es.size = kvs.length ∧
    ∀ (i : Nat) (k : List Key) (v : V), kvs[i]? = some (k, v) → ∃ (en : DictEntry) (q : Addr), es[i]? = some en ∧ en.key = .ref q ∧ H q = some (.tup (k.map kV)) ∧ RelV v en.val := by
  obtain ⟨hd, z, hs, xs, pr, o', es, ep, ho, hx, hdt, he, _⟩ := I.hok d _ h
  rw [hd] at ho
  cases ho
  refine ⟨hs, hd, hx, es, ep, hdt, ?_, fun i k v e => ?_⟩
  · have l1 : es.size = xs.length := size_of_entries he
    have l2 : kvs.length = xs.length := Paired.length pr
    omega
  · obtain ⟨b, hb, e1, e2, e3⟩ := paired_get pr e
    have q := entry_at he i
    rw [hb] at q
    exact ⟨_, b.2.1, q, rfl, e2, e3⟩
theorem turn_itemsT {d : Addr} {o : Obj} {es : Array DictEntry} {ep : Nat} {kvs : List (List Key × V)} {elts : List Expr} {kk : Nat} {tpos : Pos} (it : Addr) (hod : o.data = .dict es ep) :
    Turn P w K (.Tuple elts kk tpos) (ItiT d o kvs) [it] it (fun i h => ∃ ok ov, IsItemIter h it d i kvs.length ep ok ov) where
  mem := List.mem_singleton.mpr rfl
  obj := fun i h st b hb => by
    obtain rfl := List.mem_singleton.mp hb
    obtain ⟨_, _, e⟩ := st
    exact ⟨_, e, fun v z => nomatch z⟩
  keep := fun i h h' st k => let ⟨ok, ov, e⟩ := st; ⟨ok, ov, k it (List.mem_singleton.mpr rfl) _ e⟩
  item := by
    intro X hP hw hK hc i pins s σ H E I hf st hg
    subst hP hw hK
    obtain ⟨hd, hi⟩ := hg
    obtain ⟨hs, hgd, hx, es', ep', hdt, hsz, ent⟩ := rowsT I hd
    obtain ⟨rfl, rfl⟩ := dict_ep hod hdt
    obtain ⟨⟨k, v⟩, hkv⟩ : ∃ p, kvs[i]? = some p := ⟨kvs[i], List.getElem?_eq_getElem hi⟩
    obtain ⟨en, q, hen, hkey, hq, rv⟩ := ent i k v hkv
    have hie : i < es'.size := by omega
    have een : es'[i] = en := by
      rw [Array.getElem?_eq_getElem hie] at hen
      exact Option.some.inj hen
    obtain ⟨ok, ov, he⟩ := st
    rw [← hsz] at he
    have lt : it < s.heap.objs.size := Heap.lt_size he
    refine DT.nextI he ⟨o, hgd, hx, hdt⟩ hie fun h' ho hT hz hk => ⟨_, rfl, wpAny_letOwnedTupleGo_items (s := { s with heap := h' }) ho fun h2 he2 sb => ?_⟩
    rw [een, hkey] at hT he2
    have hT2 : h2.get? s.heap.objs.size = some { cls := .type "tuple", data := .seq #[.ref q, en.val] } := (sb.2 _ (Nat.ne_of_gt lt)).trans hT
    have nw : ObjOk X.prog X.w (upd H s.heap.objs.size (.tup [.ref q, v])) h2 s.heap.objs.size (.tup [.ref q, v]) := ⟨by show 2 ≤ sizeLine; decide, [.ref q, en.val], .cons rfl (.cons rv .nil), ⟨_, hT2, rfl, _, rfl⟩⟩
    have I1 : Inv X pins σ (upd H s.heap.objs.size (.tup [.ref q, v])) { s with heap := h2 } :=
      I.turnedNew (t' := s.toks) (ch := [it]) (fun b ob hb e => (sb.2 b fun z => hb (List.mem_singleton.mpr z)).trans (hk b ob (fun z => hb (List.mem_singleton.mpr z)) e)) hf (Nat.le_refl _) nw
    refine ⟨.ref s.heap.objs.size, _, I1, rfl, ⟨_, q, k, v, hkv, hq, rfl, I.hok.fresh (Nat.le_refl _), rfl⟩, ⟨_, _, by rw [← hsz]; exact he2⟩, fun b hb => ?_⟩
    obtain rfl := List.mem_singleton.mp hb
    rw [upd_ne (Nat.ne_of_lt lt)]
    exact (hf _ (List.mem_singleton.mpr rfl)).1
  done := by
    intro X hP hw hK hc i pins s σ H E I hf st hg
    subst hP hw hK
    obtain ⟨hd, hi⟩ := hg
    obtain ⟨f0, f1, f2, f3, f4, f5⟩ := hf it (List.mem_singleton.mpr rfl)
    obtain ⟨hs, hgd, hx, es', ep', hdt, hsz, ent⟩ := rowsT I hd
    obtain ⟨rfl, rfl⟩ := dict_ep hod hdt
    obtain ⟨ok, ov, he⟩ := st
    rw [← hsz] at he
    exact DT.endI (I.ok.hd hc) he ⟨o, hgd, hx, hdt⟩ (by omega) fun h' eb => ⟨rfl, I.turned (t' := s.toks) (fun b ob hb e => eb b ob hb e) f0 f1 f3 f4 f5⟩
  self := fun A i s Q E st h => let ⟨_, _, e⟩ := st; PySem.W.kcp_self e h
end
def iItemsT (td : TE) : TI := fun σ H R => td σ H fun x H1 => ∃ d o kvs, x = .ref d ∧ H1 d = some (.frz o (.dT kvs)) ∧ R (ItiT d o kvs) H1
section
variable {X : Cx} {e : Expr} {td : TE} {apos cpos : Pos}
theorem pi_itemsT {elts : List Expr} {kk : Nat} {tpos : Pos} (he : PE X e td) (hbase : attributeBase e "items" X.env (eval e X.env) = eval e X.env := by rfl) (hline : (apos.endLine == cpos.line) = true := by rfl) :
    PI X (.Tuple elts kk tpos) (.Call (.Attribute e "items" apos) [] [] cpos) (iItemsT td) := by
  refine ⟨fun pins s σ H R I h => ?_⟩
  refine wpAny_Call_method (T := "dict") (id := "dict.items") hbase rfl hline F.plainAttrs_dict F.slot_dict_items F.type_dict_items (thn (he.run pins s σ H _ I h) fun u s1 ⟨x, H1, I1, rx, d, o, kvs, ex, hd, q⟩ => ?_)
  subst ex
  obtain rfl : u = Value.ref d := rx
  obtain ⟨hs, hgd, hx, es, ep, hdt, hsz, ent⟩ := rowsT I1 hd
  have raw : DT.Raw s1.heap d es ep := ⟨o, hgd, hx, hdt⟩
  refine ⟨raw.typeIs, fun a ea => by cases ea; exact ⟨o, hgd, hx.2.1⟩, ?_⟩
  have I2 : Inv X pins σ H1 { s1 with heap := s1.heap.push { cls := .type "dict_items", data := .fields #[.ref d] } } := I1.kept (t' := s1.toks) fun b ob q => Heap.get?_push_of_some _ q
  have fin : wpAny (model X.prog X.w) X.A (pyIter (.ref s1.heap.objs.size)) (PIE X pins σ (.Tuple elts kk tpos) R) X.xe { s1 with heap := s1.heap.push { cls := .type "dict_items", data := .fields #[.ref d] } } := by
    refine DT.iterI (d := d) ⟨_, Heap.get?_push_size _ rfl, rfl, rfl⟩ (raw.push _) (pi_one (tk := s1.toks) I2 _ (turn_itemsT _ hdt) ⟨.none, .none, ?_⟩ q)
    rw [← hsz]
    exact Heap.get?_push_size _ rfl
  show wpAny _ _ (callWith cpos (.builtin "dict.items") [.ref d] [] []) _ X.xe s1
  exact method_meetsIn F.slot_dict_items F.entry_dict_items rfl (PySem.evalArgs_none ⟨rfl, raw.typeIs, F.args_dict_items_1 _, _, DT.meetsItems hs, ⟨raw, fin⟩⟩)
end
/-! ### enumerate(a tuple) -/
theorem meets_enum_tup (l : Addr) (items : Array Value) (n : Nat) (dd : Option Addr) (sl : Array (Option Value)) :
    Meets (Builtin.«enumerate.__new__» ⟨[.type "enumerate", .ref l], []⟩) (fun _ R s => s.heap.get? l = some { cls := .type "tuple", dict := dd, data := .seq items n, slots := sl } ∧
      R (.ok (.ret (.ref (s.heap.push { cls := .type "tuple_iterator", data := .fields #[.ref l, .int 0 0] }).objs.size)))
        { s with heap := (s.heap.push { cls := .type "tuple_iterator", data := .fields #[.ref l, .int 0 0] }).push { cls := .type "enumerate", data := .fields #[.none, .bool false, .ref s.heap.objs.size, rawInt 0, .none, .none] } }) :=
  .of_wp fun prog w A R s h => by
    obtain ⟨hp, g, d, tk, os⟩ := s
    obtain ⟨hl, h⟩ := h
    have hsub := sub_enumerate
    have hL : Heap.IsTuple (Shared.heap ⟨hp, g, d, tk, os⟩) l items := ⟨_, hl, rfl, n, rfl⟩
    wp_walk using wpAny_loadPart' hl
    refine wpAny_stack_any fun st => wpAny_pure ?_
    split
    · rename_i c _ _ _ _ _
      cases (c == Value.type "enumerate") <;>
        (wp_walk using wpAny_loadPart' hl, wpAny_pyIter_tuple hL
         exact ⟨_, rfl, h⟩)
    · wp_walk using wpAny_loadPart' hl, wpAny_pyIter_tuple hL
      exact ⟨_, rfl, h⟩
theorem call_enum_tup {P : Program} {w : World} {A : Around} {E : Value → Shared → Prop} {s : Shared} {l : Addr} {items : Array Value} {Q : Value → Shared → Prop} (hL : s.heap.IsTuple l items)
    (h : ∀ h', IsEnum h' (s.heap.objs.size + 1) s.heap.objs.size 0 .none → h'.IsTupleIter s.heap.objs.size l 0 → h'.objs.size = s.heap.objs.size + 2 → (∀ b o, s.heap.get? b = some o → h'.get? b = some o) → Q (.ref (s.heap.objs.size + 1)) { s with heap := h' }) :
    wpAny (model P w) A (call (.type "enumerate") [.ref l]) Q E s := by
  obtain ⟨⟨c, dct, dt, sl⟩, hl, hc, n, hd⟩ := hL
  obtain rfl : c = .type "tuple" := hc
  obtain rfl : dt = .seq items n := hd
  have hz : (s.heap.push { cls := .type "tuple_iterator", data := .fields #[.ref l, .int 0 0] }).objs.size = s.heap.objs.size + 1 := Heap.size_push ..
  refine callType_new F.called_enumerate (by decide) (F.typeCall_enumerate_1 _) (F.newCall_enumerate_1 _) (fun obj => F.args_object_init_2 obj _) F.entry_enumerate_new (meets_enum_tup l items n dct sl) ⟨hl, ?_⟩
  show _ ∧ _
  rw [hz]
  have he : IsEnum ((s.heap.push { cls := .type "tuple_iterator", data := .fields #[.ref l, .int 0 0] }).push { cls := .type "enumerate", data := .fields #[.none, .bool false, .ref s.heap.objs.size, rawInt 0, .none, .none] }) (s.heap.objs.size + 1) s.heap.objs.size 0 .none := by
    unfold IsEnum
    rw [← hz]
    exact Heap.get?_push_size _ rfl
  exact ⟨⟨_, he, rfl⟩, h _ he ⟨_, Heap.get?_push_of_some _ (Heap.get?_push_size _ rfl), rfl, rfl⟩ (by rw [Heap.size_push, hz]) fun b o x => Heap.get?_push_of_some _ (Heap.get?_push_of_some _ x)⟩
/-- the tuple at a, each item in a new pair -/
def IteT (K : PySem.W.Frag) (a : Addr) (xs : List V) : It :=
  ⟨fun i H => SqT K H a xs ∧ i < xs.length, fun i H v H' => ∃ T x, v = .ref T ∧ H T = none ∧ H' = upd H T (.tup [.int (i : Nat), x]) ∧ xs[i]? = some x, fun i H => SqT K H a xs ∧ i = xs.length⟩
theorem turn_enumT {P : Program} {w : World} {K : PySem.W.Frag} {elts : List Expr} {kk : Nat} {tpos : Pos} {xs : List V} (a e it : Addr) :
    Turn P w K (.Tuple elts kk tpos) (IteT K a xs) [e, it] e (fun i h => (∃ old, IsEnum h e it ((i : Nat) : Int) old) ∧ h.IsTupleIter it a i ∧ e ≠ it ∧ e ≠ a ∧ a ≠ it) where
  mem := List.mem_cons_self
  obj := fun i h st b hb => by
    obtain ⟨⟨_, he⟩, ⟨o, ho, _, hd⟩, _⟩ := st
    rcases List.mem_cons.mp hb with rfl | hb
    · exact ⟨_, he, fun v q => nomatch q⟩
    · obtain rfl := List.mem_singleton.mp hb
      exact ⟨o, ho, fun v q => by rw [hd] at q; cases q⟩
  keep := fun i h h' st k => let ⟨⟨old, he⟩, hi, n⟩ := st; ⟨⟨old, k e List.mem_cons_self _ he⟩, hi.at fun o q => k it (by simp) o q, n⟩
  item := by
    intro X hP hw hK hc i pins s σ H E I hf st hg
    subst hP hw hK
    obtain ⟨⟨old, he⟩, hit, n1, n2, n3⟩ := st
    obtain ⟨hq, hlt⟩ := hg
    obtain ⟨its, rv, p, hz⟩ := I.tuple hq
    have hl := rv.length
    have el : e < s.heap.objs.size := Heap.lt_size he
    have il : it < s.heap.objs.size := by obtain ⟨_, q, _⟩ := hit; exact Heap.lt_size q
    have D := PySem.Draws.tuple (prog := X.prog) (w := X.w) (A := X.A.in1) (I.ok.hd hc) it a n3 its.toArray
    refine wpAny_pyNext_enum_itemD D he ⟨hit, p⟩ (by rw [List.size_toArray]; omega) n1 (by simp only [List.mem_cons, List.not_mem_nil, or_false, not_or]; exact ⟨n1, n2⟩) fun u h' tk hu ho st' hT hsz hk => ⟨_, rfl, wpAny_letOwnedTupleGo_enum (s := { s with heap := h', toks := tk + 1 }) ho fun h2 he2 sb => ?_⟩
    have hxi : xs[i]? = some xs[i] := List.getElem?_eq_getElem hlt
    obtain ⟨u', hu', ru⟩ := rv.get hxi
    have eu : u' = u := by
      have z : its[i]? = some u := by simpa using hu
      rw [hu'] at z
      exact Option.some.inj z
    rw [eu] at ru
    have hT2 : h2.get? s.heap.objs.size = some { cls := .type "tuple", data := .seq #[.int i tk, u] } := (sb.2 _ (Nat.ne_of_gt el)).trans hT
    have nw : ObjOk X.prog X.w (upd H s.heap.objs.size (.tup [.int (i : Nat), xs[i]])) h2 s.heap.objs.size (.tup [.int (i : Nat), xs[i]]) := ⟨by show 2 ≤ sizeLine; decide, [.int i tk, u], .cons ⟨_, rfl⟩ (.cons ru .nil), ⟨_, hT2, rfl, _, rfl⟩⟩
    have I1 : Inv X pins σ (upd H s.heap.objs.size (.tup [.int (i : Nat), xs[i]])) { s with heap := h2, toks := tk + 1 } :=
      I.turnedNew (ch := [e, it]) (fun b ob hb q => (sb.2 b (fun z => hb (by simp [z]))).trans (hk b ob (fun z => hb (by simp [z])) (fun z => hb (by simp [z])) q)) hf (Nat.le_refl _) nw
    refine ⟨.ref s.heap.objs.size, _, I1, rfl, ⟨_, _, rfl, I.hok.fresh (Nat.le_refl _), rfl, hxi⟩, ⟨⟨u, ?_⟩, st'.1.at fun o q => (sb.2 it (Ne.symm n1)).trans q, n1, n2, n3⟩, fun b hb => ?_⟩
    · rw [show ((i + 1 : Nat) : Int) = (i : Int) + 1 by omega]
      exact he2
    · rcases List.mem_cons.mp hb with rfl | hb
      · rw [upd_ne (Nat.ne_of_lt el)]
        exact (hf _ List.mem_cons_self).1
      · obtain rfl := List.mem_singleton.mp hb
        rw [upd_ne (Nat.ne_of_lt il)]
        exact (hf _ (by simp)).1
  done := by
    intro X hP hw hK hc i pins s σ H E I hf st hg
    subst hP hw hK
    obtain ⟨⟨old, he⟩, hit, n1, n2, n3⟩ := st
    obtain ⟨hq, hlt⟩ := hg
    obtain ⟨its, rv, p, hz⟩ := I.tuple hq
    obtain ⟨f0, f1, f2, f3, f4, f5⟩ := hf it (by simp)
    have hl := rv.length
    have D := PySem.Draws.tuple (prog := X.prog) (w := X.w) (A := X.A.in1) (I.ok.hd hc) it a n3 its.toArray
    have ei : i = its.toArray.size := by
      rw [List.size_toArray]
      omega
    exact wpAny_pyNext_enum_endD D he (by rw [← ei]; exact ⟨hit, p⟩) fun h' eb => ⟨rfl, I.turned (t' := s.toks) (fun b o hb q => eb b o hb q) f0 f1 f3 f4 f5⟩
  self := fun A i s Q E st h => let ⟨⟨_, he⟩, _⟩ := st; wpAny_pyIter_enum he h
def iEnumT (K : PySem.W.Frag) (ta : TA) : TI := fun σ H R => ta σ H fun vs H1 => ∃ a xs, vs = [.ref a] ∧ SqT K H1 a xs ∧ R (IteT K a xs) H1
theorem pi_enumT {X : Cx} {e : Expr} {ta : TA} {p pos tpos : Pos} {elts : List Expr} {kk : Nat} (hg : Gl X "enumerate") (hm : X.mg "enumerate" = none) (ha : PA X [e] ta) (hs : starEach [e] X.env = [(false, eval e X.env)] := by rfl) :
    PI X (.Tuple elts kk tpos) (.Call (.Name "enumerate" p) [e] [] pos) (iEnumT X.K ta) := by
  refine ⟨fun pins s σ H R I h => ?_⟩
  refine Call_ (ld_blt I hg hm boot_enumerate (PyProof.Rows.callWith_type1 (thn (ha.run pos pins s σ H _ I h) fun us s1 ⟨vs, H1, I1, r1, a, xs, ex, hq, q⟩ => ?_) hs rfl))
  subst ex
  rw [Vals.ref1 r1]
  obtain ⟨its, rv, p', hz⟩ := I1.tuple hq
  have la : a < s1.heap.objs.size := by obtain ⟨o, z, _⟩ := p'; exact Heap.lt_size z
  refine call_enum_tup p' fun h' he hit hsz hk => wpAny_pyIter_enum he ?_
  have I2 : Inv X pins σ H1 { s1 with heap := h' } := I1.kept (t' := s1.toks) hk
  refine ⟨s1.heap.objs.size + 1, [s1.heap.objs.size + 1, s1.heap.objs.size], _, _, H1, rfl, I2, turn_enumT a (s1.heap.objs.size + 1) s1.heap.objs.size, ⟨⟨.none, he⟩, hit, Nat.succ_ne_self _, Nat.ne_of_gt (Nat.lt_succ_of_lt la), Nat.ne_of_lt la⟩, fun b hb => ?_, q⟩
  have hle : s1.heap.objs.size ≤ b := by
    rcases List.mem_cons.mp hb with rfl | hb
    · exact Nat.le_succ _
    · exact Nat.le_of_eq (List.mem_singleton.mp hb).symm
  exact I1.fpOk hle (I1.hok.fresh hle)
/-! ### loops over these: for statements, two-clause sets -/
section
variable {K : PySem.W.Frag}
theorem for_enumT {a : Addr} {xs : List V} {g : TG} {tb : TS} {D : Ends} {σ : L2.St} {H : Hp} (Pv : Nat → L2.St → Hp → Prop) (h0 : Pv 0 σ H) (hq : ∀ i σ H, Pv i σ H → SqT K H a xs)
    (hs : ∀ (i : Nat) (x : V) (T : Addr) (σ : L2.St) (H H' : Hp), xs[i]? = some x → Pv i σ H → Same H H' → H T = none → H' T = some (.tup [.int (i : Nat), x]) → g (.ref T) σ H' fun σ2 H2 => tb { D with nx := Pv (i + 1), ct := Pv (i + 1), bk := D.nx } σ2 H2) (hd : ∀ σ H, Pv xs.length σ H → D.nx σ H) :
    ∃ W : Nat → Nat → L2.St → Hp → Prop, (∃ m, W 0 m σ H) ∧ ∀ i m σ H, W i m σ H →
      ((IteT K a xs).stop i H ∧ D.nx σ H) ∨ ((IteT K a xs).go i H ∧ ∃ N : L2.St → Hp → Prop, (∀ σ' H', N σ' H' → ∃ m', m' < m ∧ W (i + 1) m' σ' H') ∧ ∀ y H', (IteT K a xs).yld i H y H' → g y σ H' fun σ2 H2 => tb { D with nx := N, ct := N, bk := D.nx } σ2 H2) := by
  refine ⟨fun i m σ H => m + i = xs.length ∧ Pv i σ H, ⟨xs.length, rfl, h0⟩, ?_⟩
  rintro i m σ H ⟨hm, p⟩
  by_cases hlt : i < xs.length
  · refine .inr ⟨⟨hq i σ H p, hlt⟩, Pv (i + 1), fun σ' H' p' => ⟨m - 1, by omega, by omega, p'⟩, fun y H' hy => ?_⟩
    obtain ⟨T, x, ey, hn, eH, hx⟩ := hy
    rw [ey, eH]
    exact hs i x T σ H _ hx p (upd_new hn) hn upd_same
  · obtain rfl : i = xs.length := by omega
    exact .inl ⟨⟨hq _ σ H p, rfl⟩, hd σ H p⟩
theorem for_itemsT {d : Addr} {o : Obj} {kvs : List (List Key × V)} {g : TG} {tb : TS} {D : Ends} {σ : L2.St} {H : Hp} (Pv : Nat → L2.St → Hp → Prop) (h0 : Pv 0 σ H) (hq : ∀ i σ H, Pv i σ H → H d = some (.frz o (.dT kvs)))
    (hs : ∀ (i : Nat) (k : List Key) (v : V) (q T : Addr) (σ : L2.St) (H H' : Hp), kvs[i]? = some (k, v) → H q = some (.tup (k.map kV)) → Pv i σ H → Same H H' → H T = none → H' T = some (.tup [.ref q, v]) → g (.ref T) σ H' fun σ2 H2 => tb { D with nx := Pv (i + 1), ct := Pv (i + 1), bk := D.nx } σ2 H2)
    (hd : ∀ σ H, Pv kvs.length σ H → D.nx σ H) :
    ∃ W : Nat → Nat → L2.St → Hp → Prop, (∃ m, W 0 m σ H) ∧ ∀ i m σ H, W i m σ H →
      ((ItiT d o kvs).stop i H ∧ D.nx σ H) ∨ ((ItiT d o kvs).go i H ∧ ∃ N : L2.St → Hp → Prop, (∀ σ' H', N σ' H' → ∃ m', m' < m ∧ W (i + 1) m' σ' H') ∧ ∀ y H', (ItiT d o kvs).yld i H y H' → g y σ H' fun σ2 H2 => tb { D with nx := N, ct := N, bk := D.nx } σ2 H2) := by
  refine ⟨fun i m σ H => m + i = kvs.length ∧ Pv i σ H, ⟨kvs.length, rfl, h0⟩, ?_⟩
  rintro i m σ H ⟨hm, p⟩
  by_cases hlt : i < kvs.length
  · refine .inr ⟨⟨hq i σ H p, hlt⟩, Pv (i + 1), fun σ' H' p' => ⟨m - 1, by omega, by omega, p'⟩, fun y H' hy => ?_⟩
    obtain ⟨T, q, k, v, hk, hkq, ey, hn, eH⟩ := hy
    rw [ey, eH]
    exact hs i k v q T σ H _ hk hkq p (upd_new hn) hn upd_same
  · obtain rfl : i = kvs.length := by omega
    exact .inl ⟨⟨hq _ σ H p, Nat.le_refl _⟩, hd σ H p⟩
/-- over a list | a tuple: the outer clause of a set that two clauses make -/
theorem sc2_list {w : World} {a : Addr} {xs : List V} {g : TG} {tt : TT} {wi1 : TI} {g1 : TG} {tt1 : TT} {te : TE} {vs vs1 : List Nat} {σ : L2.St} {H1 : Hp} {D : Addr} {Qd : Hp → Prop} (Pv : Nat → Hp → Prop) (h0 : Pv 0 (upd H1 D (SetM w D []))) (hl : ∀ i H, Pv i H → SqL K H a xs)
    (hs : ∀ i x H, xs[i]? = some x → Pv i H → g x (wipe σ vs) H fun σ2 H2 => wipe σ2 vs = wipe σ vs ∧ tt σ2 H2 fun b H3 => if b = true then Inner w wi1 g1 tt1 te vs1 D σ2 H3 (Pv (i + 1)) else Pv (i + 1) H3) (hd : ∀ H, Pv xs.length H → Qd H) :
    ∃ W : Nat → Nat → Hp → Prop, (∃ m, W 0 m (upd H1 D (SetM w D []))) ∧ ∀ i m H, W i m H →
      ((Itl K a).stop i H ∧ Qd H) ∨ ((Itl K a).go i H ∧ ∃ Nx : Hp → Prop, (∀ H', Nx H' → ∃ m', m' < m ∧ W (i + 1) m' H') ∧ ∀ x H', (Itl K a).yld i H x H' → g x (wipe σ vs) H' fun σ2 H2 => wipe σ2 vs = wipe σ vs ∧ tt σ2 H2 fun b H3 =>
        if b = true then Inner w wi1 g1 tt1 te vs1 D σ2 H3 Nx else Nx H3) := by
  refine ⟨fun i m H => m + i = xs.length ∧ Pv i H, ⟨xs.length, rfl, h0⟩, ?_⟩
  rintro i m H ⟨hm, p⟩
  have q := hl i H p
  by_cases hlt : i < xs.length
  · refine .inr ⟨⟨xs, xs[i], q, List.getElem?_eq_getElem hlt⟩, Pv (i + 1), fun H' p' => ⟨m - 1, by omega, by omega, p'⟩, fun x H' y => ?_⟩
    obtain ⟨rfl, y⟩ := y
    exact hs i x _ (y xs q) p
  · obtain rfl : i = xs.length := by omega
    exact .inl ⟨⟨xs, q, Nat.le_refl _⟩, hd H p⟩
theorem sc2_tup {w : World} {a : Addr} {xs : List V} {g : TG} {tt : TT} {wi1 : TI} {g1 : TG} {tt1 : TT} {te : TE} {vs vs1 : List Nat} {σ : L2.St} {H1 : Hp} {D : Addr} {Qd : Hp → Prop} (Pv : Nat → Hp → Prop) (h0 : Pv 0 (upd H1 D (SetM w D []))) (hl : ∀ i H, Pv i H → SqT K H a xs)
    (hs : ∀ i x H, xs[i]? = some x → Pv i H → g x (wipe σ vs) H fun σ2 H2 => wipe σ2 vs = wipe σ vs ∧ tt σ2 H2 fun b H3 => if b = true then Inner w wi1 g1 tt1 te vs1 D σ2 H3 (Pv (i + 1)) else Pv (i + 1) H3) (hd : ∀ H, Pv xs.length H → Qd H) :
    ∃ W : Nat → Nat → Hp → Prop, (∃ m, W 0 m (upd H1 D (SetM w D []))) ∧ ∀ i m H, W i m H →
      ((Itt K a).stop i H ∧ Qd H) ∨ ((Itt K a).go i H ∧ ∃ Nx : Hp → Prop, (∀ H', Nx H' → ∃ m', m' < m ∧ W (i + 1) m' H') ∧ ∀ x H', (Itt K a).yld i H x H' → g x (wipe σ vs) H' fun σ2 H2 => wipe σ2 vs = wipe σ vs ∧ tt σ2 H2 fun b H3 =>
        if b = true then Inner w wi1 g1 tt1 te vs1 D σ2 H3 Nx else Nx H3) := by
  refine ⟨fun i m H => m + i = xs.length ∧ Pv i H, ⟨xs.length, rfl, h0⟩, ?_⟩
  rintro i m H ⟨hm, p⟩
  have q := hl i H p
  by_cases hlt : i < xs.length
  · refine .inr ⟨⟨xs, xs[i], q, List.getElem?_eq_getElem hlt⟩, Pv (i + 1), fun H' p' => ⟨m - 1, by omega, by omega, p'⟩, fun x H' y => ?_⟩
    obtain ⟨rfl, y⟩ := y
    exact hs i x _ (y xs q) p
  · obtain rfl : i = xs.length := by omega
    exact .inl ⟨⟨xs, q, Nat.le_refl _⟩, hd H p⟩
/-- the inner clause, over a tuple -/
theorem in_tup {w : World} {a : Addr} {xs : List V} {g1 : TG} {tt1 : TT} {te : TE} {vs1 : List Nat} {D : Addr} {σ2 : L2.St} {H4 : Hp} {Nx : Hp → Prop} (Pv : Nat → Hp → Prop) (h0 : Pv 0 H4) (hl : ∀ i H, Pv i H → SqT K H a xs)
    (hs : ∀ i x H, xs[i]? = some x → Pv i H → g1 x (wipe σ2 vs1) H fun σ3 H5 => wipe σ3 vs1 = wipe σ2 vs1 ∧ tt1 σ3 H5 fun b H6 =>
      if b = true then te σ3 H6 fun y H7 => ∃ (k : Key) (L : List Key), y = kV k ∧ H7 D = some (SetM w D L) ∧ L.length + 1 < scanBound ∧ Pv (i + 1) (upd H7 D (SetM w D (addL L k))) else Pv (i + 1) H6) (hd : ∀ H, Pv xs.length H → Nx H) :
    ∃ W1 : Nat → Nat → Hp → Prop, (∃ m, W1 0 m H4) ∧ ∀ j k H, W1 j k H →
      ((Itt K a).stop j H ∧ Nx H) ∨ ((Itt K a).go j H ∧ ∃ N1 : Hp → Prop, (∀ H', N1 H' → ∃ k', k' < k ∧ W1 (j + 1) k' H') ∧ ∀ x H', (Itt K a).yld j H x H' → g1 x (wipe σ2 vs1) H' fun σ3 H5 => wipe σ3 vs1 = wipe σ2 vs1 ∧ tt1 σ3 H5 fun b H6 =>
        if b = true then te σ3 H6 fun y H7 => ∃ (k : Key) (L : List Key), y = kV k ∧ H7 D = some (SetM w D L) ∧ L.length + 1 < scanBound ∧ N1 (upd H7 D (SetM w D (addL L k))) else N1 H6) := by
  refine ⟨fun i m H => m + i = xs.length ∧ Pv i H, ⟨xs.length, rfl, h0⟩, ?_⟩
  rintro i m H ⟨hm, p⟩
  have q := hl i H p
  by_cases hlt : i < xs.length
  · refine .inr ⟨⟨xs, xs[i], q, List.getElem?_eq_getElem hlt⟩, Pv (i + 1), fun H' p' => ⟨m - 1, by omega, by omega, p'⟩, fun x H' y => ?_⟩
    obtain ⟨rfl, y⟩ := y
    exact hs i x _ (y xs q) p
  · obtain rfl : i = xs.length := by omega
    exact .inl ⟨⟨xs, q, Nat.le_refl _⟩, hd H p⟩
end
end NC
-- NcDict
set_option Elab.async false
set_option linter.all false
set_option maxRecDepth 100000
set_option maxHeartbeats 4000000
/-! Dicts with pairs of texts for keys: sorted(d), {k: v for ..}, setdefault; d.update(a dict); {k: v for ..} stored in a name; dict([]). -/
namespace NC
open PySem PySem.Spec PyProof.Rows L2 PySem.W
/-- the key of a pair of texts -/
def pk (p : Str × Str) : List Key := [Sum.inr p.1, Sum.inr p.2]
theorem pk_map (p : Str × Str) : (pk p).map kV = [V.str p.1, V.str p.2] := rfl
theorem pk_inj {p q : Str × Str} (h : pk p = pk q) : p = q := by
  obtain ⟨a, b⟩ := p
  obtain ⟨c, d⟩ := q
  unfold pk at h
  injection h with h1 h2
  injection h2 with h2 h3
  injection h1 with h1
  injection h2 with h2
  rw [show a = c from h1, show b = d from h2]
/-! ### sorted(d) -/
/-- sorted(a dict whose keys are pairs of texts): the keys' own tuples, upward -/
def rSortP : List V → Hp → VK → Prop := fun vs H Q => ∃ (a : Addr) (kvs : List (List Key × V)) (ps : List (Str × Str)), vs = [.ref a] ∧ Rd H a (.dT kvs) ∧ kvs.map (·.1) = ps.map pk ∧
  ∀ (rows : List (Addr × Str × Str)) (q : Addr), (rows.map (·.2)).Perm ps → Up (rows.map (·.2)) → (∀ r ∈ rows, H r.1 = some (.tup [.str r.2.1, .str r.2.2])) → H q = none → Q (.ref q) (upd H q (.lst (rows.map fun r => .ref r.1)))
section
variable {X : Cx}
/-- the keys' tuples, in the dict's order -/
theorem rows_of_keys {H : Hp} : ∀ {kvs : List (List Key × V)} {xs : List (List Key × Addr × Value)} {ps : List (Str × Str)}, KT H kvs xs → kvs.map (·.1) = ps.map pk →
    ∃ rows : List (Addr × Str × Str), rows.map (·.2) = ps ∧ rows.map (·.1) = xs.map (fun x => x.2.1) ∧ ∀ r ∈ rows, H r.1 = some (.tup [.str r.2.1, .str r.2.2])
  | [], xs, ps, r, e => by
    cases r
    have : ps = [] := List.map_eq_nil_iff.mp e.symm
    exact ⟨[], by rw [this]; rfl, rfl, by simp⟩
  | kv :: kvs, xs, ps, r, e => by
    cases r with
    | @cons _ x _ xs h t =>
      cases ps with
      | nil => cases e
      | cons p ps =>
        rw [List.map_cons, List.map_cons] at e
        injection e with e1 e2
        obtain ⟨rows, h1, h2, h3⟩ := rows_of_keys t e2
        refine ⟨(x.2.1, p) :: rows, by rw [List.map_cons, h1], by rw [List.map_cons, List.map_cons, h2], fun r hr => ?_⟩
        rcases List.mem_cons.mp hr with rfl | hr
        · have z := h.2.1
          rw [e1, pk_map] at z
          exact z
        · exact h3 r hr
theorem hold_pairs {pins : List (Addr × Obj)} {σ : L2.St} {H : Hp} {s : Shared} {h' : Heap} (I : Inv X pins σ H s) (k : ∀ b o, s.heap.get? b = some o → h'.get? b = some o) : ∀ rows : List (Addr × Str × Str), (∀ r ∈ rows, H r.1 = some (.tup [.str r.2.1, .str r.2.2])) →
    EachIs (fun u (p : V × (Str × Str)) => RelV p.1 u) (rows.map fun r => Value.ref r.1) (rows.map fun r => (V.ref r.1, r.2)) ∧ HoldAll h' (rows.map fun r => Value.ref r.1) (rows.map (·.2))
  | [], _ => ⟨.nil, HoldAll.nil⟩
  | r :: rows, h => by
    obtain ⟨a, b⟩ := hold_pairs I k rows fun q hq => h q (List.mem_cons_of_mem _ hq)
    have z : Hd X.K H (.ref r.1) r.2 := hd_pair (st_of (h r List.mem_cons_self)) (hd_str _) (hd_str _)
    exact ⟨.cons rfl a, HoldAll.cons ((hd_holds I z rfl).keeps k) b⟩
theorem cr_sortedP2 (hc : X.calm = true) (hu : X.A.units + 64 < cLine) : CallR X (.builtin "sorted") rSortP := by
  intro pins s σ H vs us Q I r h
  obtain ⟨a, kvs, ps, rfl, ha, hk, q⟩ := h
  rw [Vals.ref1 r]
  obtain ⟨z, hs, ks, pr, o, es, ep, ho, hx, hdt, he, hn⟩ := (show ObjOk X.prog X.w H s.heap a (.dT kvs) from ha.ok I.hok)
  have l1 : es.size = ks.length := size_of_entries he
  have l2 : kvs.length = ks.length := Paired.length pr
  obtain ⟨rows, r1, r2, r3⟩ := rows_of_keys pr hk
  have lr : rows.length = ks.length := by
    have := congrArg List.length r2
    rwa [List.length_map, List.length_map] at this
  refine sorted_core (α := Str × Str) (Kp := fun s' us ps' => us = rows.map (fun r => Value.ref r.1) ∧ ps' = rows.map (fun r => (V.ref r.1, r.2)) ∧ (∀ b o, s.heap.get? b = some o → s'.heap.get? b = some o) ∧ ∃ h' tk, s' = { s with heap := h', toks := tk })
    (.inl fun x => ⟨_, _, rfl⟩) (room2 hu (by decide)) (fun E' => ?_) fun s' us ps' hK => ?_
  · refine kdu_collect (A := X.A.in1) (kdl_raw hs hx hdt) (I.ok.hd hc) ho (by omega) fun h' tk acc kp it => ⟨_, ?_, rfl, kp, h', tk, rfl⟩
    · apply List.ext_getElem?
      intro j
      have hl : acc.toList.length = ks.length := by rw [Array.length_toList, it.1]; exact l1
      rw [List.getElem?_map]
      cases hj : acc.toList[j]? with
      | none =>
        have h1 := List.getElem?_eq_none_iff.mp hj
        rw [List.getElem?_eq_none (by omega)]
        rfl
      | some v =>
        obtain ⟨en, hen, hv⟩ := it.2 j v (by rw [← Array.getElem?_toList]; exact hj)
        have qe := entry_at he j
        rw [hen] at qe
        have q2 := congrArg (fun l : List Addr => l[j]?) r2
        simp only [List.getElem?_map] at q2
        cases hb : ks[j]? with
        | none =>
          rw [hb] at qe
          exact nomatch (show some en = none from qe)
        | some b =>
          rw [hb] at qe q2
          have e2 : en = entryOfKey (tupleKind (mixKind X.prog X.w)) b := Option.some.inj qe
          rw [hv, e2]
          cases hr : rows[j]? with
          | none =>
            rw [hr] at q2
            cases q2
          | some rw' =>
            rw [hr] at q2
            have q3 : rw'.1 = b.2.1 := Option.some.inj q2
            show some (Value.ref b.2.1) = some (Value.ref rw'.1)
            rw [q3]
  · obtain ⟨rfl, rfl, k1, h', tk, rfl⟩ := hK
    obtain ⟨e1, e2⟩ := hold_pairs I k1 rows r3
    refine ⟨e1, by rw [List.map_map]; exact e2, by rw [List.length_map]; omega, fun out ps' c h2 pp up er hg kp => ?_⟩
    -- the sorted pairs are rows again
    have hrow : ∃ rows' : List (Addr × Str × Str), rows'.Perm rows ∧ ps' = rows'.map fun r => (V.ref r.1, r.2) := by
      refine ⟨ps'.map fun p => ((match p.1 with | .ref b => b | _ => 0), p.2), ?_, ?_⟩
      · have z := pp.map fun p : V × (Str × Str) => ((match p.1 with | .ref b => b | _ => 0 : Addr), p.2)
        rw [List.map_map] at z
        exact z.trans (by simp [Function.comp_def])
      · rw [List.map_map]
        symm
        conv => rhs; rw [← List.map_id ps']
        refine List.map_congr_left fun p hp => ?_
        obtain ⟨r, _, e⟩ := List.mem_map.mp (pp.mem_iff.mp hp)
        rw [← e]
        rfl
    obtain ⟨rows', rp, rfl⟩ := hrow
    have hv := vals_each er
    rw [List.map_map] at hv up
    have I1 : Inv X pins σ H { s with heap := h', toks := tk } := I.kept k1
    have J : Inv X pins σ (upd H h'.objs.size (.lst (rows'.map fun r => V.ref r.1))) { s with heap := h2, toks := tk } :=
      I1.laid (t' := tk) kp (Nat.le_refl _) ⟨by rw [List.length_map, rp.length_eq]; omega, out, c, hv, hg⟩
    exact ⟨.ref _, _, J, rfl, q rows' _ (by rw [← r1]; exact rp.map _) up (fun r hr => r3 r (rp.mem_iff.mp hr)) (I1.hok.fresh (Nat.le_refl _))⟩
end
/-! ### {k: v for .. in ..}, the keys tuples -/
section
variable {X : Cx}
def tDcT (wi : TI) (g : TG) (tt : TT) (tk tv : TE) (vs : List Nat) : TE := fun σ H Q => wi σ H fun J H1 => ∀ D, H1 D = none → ∃ W : Nat → Nat → Hp → Prop, (∃ m, W 0 m (upd H1 D (.dT []))) ∧ ∀ i m H, W i m H →
  (J.stop i H ∧ Q (.ref D) H) ∨ (J.go i H ∧ ∃ Nx : Hp → Prop, (∀ H', Nx H' → ∃ m', m' < m ∧ W (i + 1) m' H') ∧ ∀ x H', J.yld i H x H' → g x (wipe σ vs) H' fun σ2 H2 => wipe σ2 vs = wipe σ vs ∧ tt σ2 H2 fun b H3 =>
    if b = true then tk σ2 H3 fun y H4 => tv σ2 H4 fun z H5 => ∃ (kvs : List (List Key × V)) (k : List Key) (q : Addr), y = .ref q ∧ H5 q = some (.tup (k.map kV)) ∧ H5 D = some (.dT kvs) ∧ kvs.length < sizeLine ∧ Nx (upd H5 D (.dT (putK kvs k z))) else Nx H3)
theorem put_dT {pins : List (Addr × Obj)} {σ : L2.St} {H : Hp} {s : Shared} {E : Value → Shared → Prop} {D q : Addr} {kvs : List (List Key × V)} {k : List Key} {v : V} {r : Value} {Q : Unit → Shared → Prop} (hu : X.A.units + 1 < cLine) (I : Inv X pins σ H s) (hD : H D = some (.dT kvs)) (hq : H q = some (.tup (k.map kV)))
    (hz : kvs.length < sizeLine) (rv : RelV v r) (h : ∀ s', Inv X pins σ (upd H D (.dT (putK kvs k v))) s' → Q () s') : wpAny (model X.prog X.w) X.A (dictSet D (.ref q) r) Q E s := by
  obtain ⟨z, hd, xs, rel, dd⟩ := dt_of I.hok hD
  have hl : (putK kvs k v).length ≤ sizeLine := by
    have := length_putK kvs k v
    omega
  refine wpAny_dictSet_heap (hsz := by rw [← Paired.length rel]; exact z) (show X.A.units < cLine from Nat.lt_of_succ_lt hu) (key_of I.hok hq) dd fun h' dd' hs => h _ ?_
  obtain ⟨ob, es, ep, ho, h2, h3, h4, _, h5⟩ := dd'
  refine d_write I (by rw [hD]; exact True.intro) hs ⟨ob, ho⟩ ⟨hl, hd, _, (rel.put k hq rv).keeps fun c ys ec => ?_, ob, es, ep, ho, h2, h3, h4, h5⟩
  rw [upd_ne (ne_of ec hD (fun z => nomatch z))]
  exact ec
theorem pe_dcT {kx vx a0 x0 : Expr} {c0 : List Expr} {sc : Scope} {own : List (Str × Nat)} {pos : Pos} {wi : TI} {g : TG} {tt : TT} {tk tv : TE} (hc : X.calm = true) (hN : X.N.Nodup) (hi : PI X a0 x0 wi) (ok : BlkOk X.N X.env.scope sc own)
    (hg : AllBlk X sc fun B => PG B a0 g) (ht : AllBlk X sc fun B => PTs B c0 tt) (hk : AllBlk X sc fun B => PE B kx tk) (he : AllBlk X sc fun B => PE B vx tv) (hu : X.A.units + 1 < cLine) (hs : ∀ x, foldedSetIterable x0 X.env x = pure x := by intro _; rfl) :
    PE X (.DictComp kx vx [⟨a0, x0, c0, 0⟩] sc pos) (tDcT wi g tt tk tv (own.map (·.2))) := by
  refine ⟨fun pins s σ H Q I h => ?_⟩
  rw [arm_eval_DictComp]
  have frees : ∀ y ∈ sc.names, y.2 = .free → ∃ c, X.env.cells.lookup y.1 = some c := fun y hy e => (ok.free y hy e).elim (fun k => I.ok.has _ (.inl k)) fun k => I.ok.has _ (.inr k)
  refine wpAny_comprehension_free (use := none) rfl hs (closure_ok frees) ok.kind (fun y hy e => by rw [ok.uniq y hy, e]) (thn (hi.run pins s σ H _ I h) fun _ _ h1 => thn h1 fun _ s2 h2 => ?_)
  obtain ⟨it, fp, tn, J, H2, rfl, I2, T, st2, f2, q⟩ := h2
  refine wpAny_newObj_type (newEnv_comp ?_)
  obtain ⟨D, hD⟩ : ∃ D, s2.heap.objs.size = D := ⟨_, rfl⟩
  obtain ⟨W, ⟨m0, w0⟩, turn⟩ := q D (I2.hok.fresh (Nat.le_of_eq hD))
  rw [hD]
  obtain ⟨s3, hs3⟩ : ∃ s3 : Shared, { s2 with heap := s2.heap.push { cls := .type "dict", data := .dict #[] } } = s3 := ⟨_, rfl⟩
  have e3 : s3.heap = s2.heap.push { cls := .type "dict", data := .dict #[] } := by rw [← hs3]
  have I3 : Inv X pins σ (upd H2 D (.dT [])) s3 := by
    rw [← hs3]
    refine I2.laid (t' := s2.toks) (fun b o e => Heap.get?_push_of_some _ e) (Nat.le_of_eq hD) ?_
    rw [← hD]
    exact dt_empty s2.heap I2.big
  have low : ∀ b ∈ fp, b < s2.heap.objs.size := fun b hb => let ⟨_, e, _⟩ := T.obj _ _ st2 b hb; Heap.lt_size e
  have f3 : ∀ b ∈ fp, FpOk X pins (upd H2 D (.dT [])) b ∧ b < s3.heap.objs.size := fun b hb =>
    ⟨⟨(upd_ne (by rw [← hD]; exact Nat.ne_of_lt (low b hb))).trans (f2 b hb).1, (f2 b hb).2⟩, by rw [e3, Heap.size_push]; exact Nat.lt_succ_of_lt (low b hb)⟩
  have st3 : tn 0 s3.heap := T.keep _ _ _ st2 fun b _ o e => by rw [e3]; exact Heap.get?_push_of_some _ e
  have I4 := block_start I3 ok hN f3
  obtain ⟨H3, hH3⟩ : ∃ H3, upd H2 D (.dT []) = H3 := ⟨_, rfl⟩
  rw [hH3] at I3 I4 f3 w0
  obtain ⟨C, hC⟩ : ∃ C, s3.heap.objs.size = C := ⟨_, rfl⟩
  obtain ⟨cl, hcl⟩ : ∃ cl, cellsFrom (s3.heap.objs.size + 1) sc.names (cloFrom X.env.cells sc.names []) = cl := ⟨_, rfl⟩
  have pg := hg s3 H3 C cl fp
  have pt := ht s3 H3 C cl fp
  have pk := hk s3 H3 C cl fp
  have pe := he s3 H3 C cl fp
  change codeAny _ _ (.compStart (.DictComp kx vx [⟨a0, x0, c0, 0⟩] sc pos) 0 (.ref it) (.ref D) (compEnvC sc (cellsFrom (({ s2 with heap := s2.heap.push { cls := .type "dict", data := .dict #[] } } : Shared).heap.objs.size + 1) sc.names (cloFrom X.env.cells sc.names [])) ({ s2 with heap := s2.heap.push { cls := .type "dict", data := .dict #[] } } : Shared).heap.objs.size X.env))
    (compPost (model X.prog X.w) X.A X.xe none _ (.ref D) ({ s2 with heap := s2.heap.push { cls := .type "dict", data := .dict #[] } } : Shared).heap.objs.size)
    { ({ s2 with heap := s2.heap.push { cls := .type "dict", data := .dict #[] } } : Shared) with heap := pushCells (({ s2 with heap := s2.heap.push { cls := .type "dict", data := .dict #[] } } : Shared).heap.push { cls := .type "dict", data := .dict #[] }) sc.names }
  rw [hs3, hcl, hC]
  rw [hcl, hC] at I4
  obtain ⟨ce, hce⟩ : ∃ ce, compEnvC sc cl C X.env = ce := ⟨_, rfl⟩
  rw [hce] at I4 pg pt pk pe ⊢
  have cL : ce.locals = C := by rw [← hce]; rfl
  obtain ⟨s4, hs4⟩ : ∃ s4 : Shared, { s3 with heap := pushCells (s3.heap.push { cls := .type "dict", data := .dict #[] }) sc.names } = s4 := ⟨_, rfl⟩
  rw [hs4] at I4 ⊢
  have st4 : tn 0 s4.heap := T.keep _ _ _ st3 fun b _ o e => by rw [← hs4]; exact pushCells_keeps _ _ _ _ (Heap.get?_push_of_some _ e)
  have fps : ∀ {σ' : L2.St} {H' : Hp} {s' : Shared}, Inv (X.blk s3 H3 sc ce fp) [] σ' H' s' → (∀ b ∈ fp, H' b = none) → ∀ b ∈ fp, FpOk (X.blk s3 H3 sc ce fp) [] H' b := fun Iq n b hb =>
    ⟨n b hb, (Iq.ok.exf b hb).1, Iq.ok.exfs b hb, .inl hb, fun x c e => (Iq.ok.exf b hb).2 x c e, fun p hp => absurd (show p ∈ ([] : List (Addr × Obj)) from hp) (by simp)⟩
  let Top : Nat → Shared → Prop := fun n s' => ∃ i H', Inv (X.blk s3 H3 sc ce fp) [] (wipe σ (own.map (·.2))) H' s' ∧ tn i s'.heap ∧ (∀ b ∈ fp, H' b = none) ∧ W i n H'
  have loop : codeAny (model X.prog X.w) X.A (.compLoop (.DictComp kx vx [⟨a0, x0, c0, 0⟩] sc pos) 0 (.ref it) (.ref D) ce) (compPost (model X.prog X.w) X.A X.xe none (fun v s' => ∃ x H', Inv X pins σ H' s' ∧ RelV x v ∧ Q x H') (.ref D) C) s4 := by
    refine compLoop_anyD Top ?_ m0 ⟨0, H3, I4, st4, fun b hb => (f3 b hb).1.1, w0⟩
    rintro n s5 ⟨i, H5, I5, st5, n5, w5⟩
    rcases turn i n H5 w5 with ⟨stop, fin⟩ | ⟨go, Nx, hNx, step⟩
    · refine thnF (T.done (X.blk s3 H3 sc ce fp) rfl rfl rfl hc i [] s5 _ H5 (fun _ _ => False) I5 (fps I5 n5) st5 stop) fun r s6 ⟨hr, I6⟩ => ?_
      subst hr
      have I7 : Inv X pins σ H5 s6 := I3.call' (ch := fp) I6.os I6.base I6.hok I6.bare fun b hb => ⟨(f3 b hb).1.2.2.2.1, (f3 b hb).1.2.1, (f3 b hb).1.2.2.2.2.1, (f3 b hb).1.2.2.2.2.2⟩
      have nC : H5 C = none := by
        rw [← cL]
        exact I6.free
      obtain ⟨m, hm, _⟩ := I6.loc
      have hm : s6.heap.Ns ce.locals m := hm
      rw [cL] at hm
      refine ⟨m, hm, fun h'' sb => ?_⟩
      obtain ⟨f0, f1, f2, f3, f4, f5⟩ := I3.fpOk (Nat.le_of_eq hC) nC
      exact ⟨.ref D, H5, I7.turned (t' := s6.toks) (fun b o hb e => (sb.2 b hb).trans e) f0 f1 f3 f4 f5, rfl, fin⟩
    · refine thnF (T.item (X.blk s3 H3 sc ce fp) rfl rfl rfl hc i [] s5 _ H5 (fun _ _ => False) I5 (fps I5 n5) st5 go) fun r s6 ⟨u, hr, h6⟩ => ?_
      subst hr
      refine thnF h6 fun _ s7 ⟨x, H7, I7, r7, y7, st7, n7⟩ => ?_
      have I8 := I7.pinned (fps I7 n7) (T.obj _ _ st7)
      refine thnF (pg.run _ s7 _ H7 x u _ I8 r7 (step x H7 y7)) fun _ s8 ⟨σ8, H8, I8', hw8, q8⟩ => ?_
      refine thnF (pt.run _ s8 σ8 H8 _ I8' q8) fun b s9 ⟨H9, I9, q9⟩ => ?_
      have next : ∀ {s' : Shared} {H' : Hp}, Inv (X.blk s3 H3 sc ce fp) ([] ++ pinsAt fp s7.heap) σ8 H' s' → Nx H' → ∃ m, m < n ∧ Top m s' := fun {s' H'} Iq nx => by
        obtain ⟨m', hm, w'⟩ := hNx H' nx
        have pin : ∀ b ∈ fp, ∀ o, s7.heap.get? b = some o → s'.heap.get? b = some o ∧ H' b = none := fun b hb o e =>
          let z := Iq.pin (b, o) (List.mem_append_right _ (List.mem_append_right _ (mem_pinsAt hb e)))
          ⟨z.1, z.2.1⟩
        exact ⟨m', hm, i + 1, H', (Iq.unpinned (pins := [])).weak (by rw [← hw8, wipe_length]) (fun j v e => by rw [← hw8] at e; exact (wipe_some e).1), T.keep _ _ _ st7 fun b hb o e => (pin b hb o e).1,
          fun b hb => let ⟨o, e, _⟩ := T.obj _ _ st7 b hb; (pin b hb o e).2, w'⟩
      cases b with
      | false =>
        rw [if_neg Bool.false_ne_true] at q9
        exact next I9 q9
      | true =>
        rw [if_pos rfl] at q9
        show wpAny _ _ (eval kx ce) _ _ s9
        refine thnF (pk.run _ s9 σ8 H9 _ I9 q9) fun z s10 ⟨yk, H10, I10, r10, q10⟩ => ?_
        refine thnF (pe.run _ s10 σ8 H10 _ I10 q10) fun z2 s11 ⟨yv, H11, I11, r11, kvs, ky, qa, ek, hq, hD11, hz, nx⟩ => ?_
        subst ek
        cases r10
        exact put_dT (X := X.blk s3 H3 sc ce fp) hu I11 hD11 hq hz r11 fun s12 I12 => next I12 nx
  exact codeAny_compStart_dict loop (T.self X.A 0 _ _ _ st4 loop)
end
end NC
-- NcDict2
set_option Elab.async false
set_option linter.all false
set_option maxRecDepth 100000
set_option maxHeartbeats 4000000
/-! d.setdefault, d.update(a dict), {k: v for ..} stored in a name, dict([]), list.extend(a tuple). -/
namespace NC
open PySem PySem.Spec PyProof.Rows L2 PySem.W
section
variable {X : Cx}
/-- x = {k: v for ..}, the keys numbers or texts -/
theorem ps_setDc {i : Nat} {y : Str} {py : Pos} {kx vx a0 x0 : Expr} {c0 : List Expr} {sc : Scope} {own : List (Str × Nat)} {pos spos : Pos} {wi : TI} {g : TG} {tt : TT} {tk tv : TE} (hc : X.calm = true) (hN : X.N.Nodup) (hy : X.N[i]? = some y) (hyl : X.env.scope.names.lookup y = some .local)
    (hsw : swapsWith (.DictComp kx vx [⟨a0, x0, c0, 0⟩] sc pos) (some (.Name y py)) spos.line X.env = pure true) (hi : PI X a0 x0 wi) (ok : BlkOk X.N X.env.scope sc own) (hg : AllBlk X sc fun B => PG B a0 g) (ht : AllBlk X sc fun B => PTs B c0 tt) (hk : AllBlk X sc fun B => PE B kx tk) (he : AllBlk X sc fun B => PE B vx tv)
    (hs : ∀ x, foldedSetIterable x0 X.env x = pure x := by intro _; rfl) : PS X (.Assign [.Name y py] (.DictComp kx vx [⟨a0, x0, c0, 0⟩] sc pos) spos) (tAsg (tDc wi g tt tk tv (own.map (·.2))) (gName i)) := by
  refine ⟨fun pins s σ H D I h => ?_⟩
  rw [exec_Assign_Name_used _ _ _ _ hsw]
  refine wpAny_bind (wpAny_standAt (wpAny_bind ?_))
  rw [arm_evalThenUse_DictComp]
  have h : tDc wi g tt tk tv (own.map (·.2)) σ H (fun x H1 => gName i x σ H1 D.nx) := h
  refine wpAny_bind (thn (dc_core (Qf := fun _ s' => SP X pins D .next s') hc hN I hi ok hg ht hk he hs h fun L C s' m H' Iq q hn f => ?_) fun _ s' hq => wpAny_pure (wpAny_pure hq))
  refine wpAny_assign_Name (store_ok2 (v := V.ref L) Iq hN hy (.inl hyl) rfl (fun s2 I2 ⟨a, sb, ha⟩ => ?_) (.inr hyl))
  obtain ⟨f0, f1, f2, f3, f4, f5⟩ := f
  have apart : C ≠ a := ha.elim (fun z => by rw [z]; exact f1) fun z e => f4 y a z e.symm
  exact ⟨m, hn.sameBut sb apart, fun h3 sb3 => ⟨_, H', I2.turned (t' := s2.toks) (fun b o hb e => (sb3.2 b hb).trans e) f0 f1 f3 f4 f5, q⟩⟩
theorem sw_trueD {kx vx : Expr} {gs : List Comprehension} {sc : Scope} {pos py : Pos} {y : Str} {l : Nat} {env : Env} (hk : env.scope.kind = .function) (hy : env.scope.names.lookup y = some .local) (hl : (py.line == pos.line) = true)
    (ha : (sc.names.any fun (n, k) => n == y && (k == .local || k == .cell)) = false) : swapsWith (.DictComp kx vx gs sc pos) (some (.Name y py)) l env = pure true := by
  have ky : env.kindOf y = some .local := hy
  have hb : env.blockKind = .function := by
    unfold Env.blockKind
    rw [hk]
    rfl
  unfold swapsWith
  simp only [hb, ky, ha, Expr.pos, hl]
  rfl
/-- d.setdefault(y, z), y a tuple that is tracked -/
def tDSetdT (td ty tx : TE) : TE := fun σ H Q => td σ H fun x H1 => ∃ a, x = .ref a ∧ IsD H1 a ∧ ty σ H1 fun y H2 => tx σ H2 fun z H3 => ∃ (kvs : List (List Key × V)) (k : List Key) (b : Addr), H3 a = some (.dT kvs) ∧ y = .ref b ∧ H3 b = some (.tup (k.map kV)) ∧ kvs.length < sizeLine ∧
  (∀ v, valV kvs k = some v → Q v H3) ∧ (valV kvs k = none → Q z (upd H3 a (.dT (putK kvs k z))))
theorem setd_dT {pins : List (Addr × Obj)} {σ : L2.St} {H : Hp} {s : Shared} {a b : Addr} {kvs : List (List Key × V)} {k : List Key} {d : V} {r : Value} {E : Value → Shared → Prop} {Q : Value → Shared → Prop} (hu : X.A.units + 1 < cLine) (I : Inv X pins σ H s) (ha : H a = some (.dT kvs)) (hb : H b = some (.tup (k.map kV))) (rd : RelV d r) (hl : kvs.length < sizeLine)
    (h1 : ∀ v, valV kvs k = some v → ∀ (w' : Value) (s' : Shared), Inv X pins σ H s' → RelV v w' → Q w' s') (h2 : valV kvs k = none → ∀ (w' : Value) (s' : Shared), Inv X pins σ (upd H a (.dT (putK kvs k d))) s' → RelV d w' → Q w' s') :
    wpAny (model X.prog X.w) X.A (call (.builtin "dict.setdefault") [.ref a, .ref b, r]) Q E s := by
  obtain ⟨z, hd, xs, rel, dd⟩ := dt_of I.hok ha
  have q := rel.val k
  refine call_setdefault_heap (hsz := by rw [← Paired.length rel]; exact z) (tupleKind_room_in1 hu) (key_of I.hok hb) hd dd (fun p hp => ?_) fun hn h' dd' hs => ?_
  · rw [hp] at q
    cases q0 : valV kvs k with
    | none =>
      rw [q0] at q
      exact (show False from q).elim
    | some v0 =>
      rw [q0] at q
      exact h1 v0 q0 _ _ (I.tok _) q
  · rw [hn] at q
    cases q0 : valV kvs k with
    | some v0 =>
      rw [q0] at q
      exact (show False from q).elim
    | none =>
      have hl2 : (putK kvs k d).length ≤ sizeLine := by
        have := length_putK kvs k d
        omega
      obtain ⟨ob, es, ep, ho, g2, g3, g4, _, g5⟩ := dd'
      refine h2 q0 _ _ (d_write I (by rw [ha]; exact True.intro) hs ⟨ob, ho⟩ ⟨hl2, hd, _, (rel.put k hb rd).keeps fun c ys ec => ?_, ob, es, ep, ho, g2, g3, g4, g5⟩) rd
      rw [upd_ne (ne_of ec ha (fun z => nomatch z))]
      exact ec
theorem pe_dsetdT {o e f : Expr} {td ty tx : TE} {apos cpos : Pos} (hu : X.A.units + 1 < cLine) (ho : PE X o td) (he : PE X e ty) (hf : PE X f tx) (m : M2 X o "setdefault" apos e f cpos) : PE X (.Call (.Attribute o "setdefault" apos) [e, f] [] cpos) (tDSetdT td ty tx) := by
  refine ⟨fun pins s σ H Q I h => ?_⟩
  refine wpAny_Call_method m.base m.few m.line PySem.F.plainAttrs_dict PySem.F.slot_dict_setdefault PySem.F.type_dict_setdefault (thn (ho.run pins s σ H _ I h) fun u s1 ⟨x, H1, I1, rx, a, ex, d, q1⟩ => ?_)
  subst ex
  obtain rfl : u = Value.ref a := rx
  obtain ⟨t1, t2, _⟩ := isD_at I1 d
  refine ⟨t1, t2, ?_⟩
  rw [m.trees]
  refine Calls.callWith_builtin rfl (Calls.evalArgs_plain (Calls.spliced_cons (thn (he.run pins s1 σ H1 _ I1 q1) fun iv s2 ⟨y, H2, I2, ry, q2⟩ => Calls.spliced_cons (thn (hf.run pins s2 σ H2 _ I2 q2) fun fv s3 ⟨z, H3, I3, rz, kvs, k, b, ea, ey, eb, hl, q3, q4⟩ => Calls.spliced_nil ?_))))
  subst ey
  cases ry
  exact setd_dT hu I3 ea eb rz hl (fun v hv w' s4 I4 rw' => ⟨v, _, I4, rw', q3 v hv⟩) fun hn w' s4 I4 rw' => ⟨z, _, I4, rw', q4 hn⟩
/-- d.update(e), both with numbers or texts for keys -/
def rUpdate : V → List V → Hp → VK → Prop := fun x vs H Q => ∃ (a b : Addr) (kvs more : List (Key × V)), x = .ref a ∧ vs = [.ref b] ∧ a ≠ b ∧ H a = some (.dK kvs) ∧ H b = some (.dK more) ∧ kvs.length + more.length ≤ sizeLine ∧ Q .non (upd H a (.dK (mergeK kvs more)))
theorem mergeK_len : ∀ (more kvs : List (Key × V)), (mergeK kvs more).length ≤ kvs.length + more.length
  | [], kvs => Nat.le_refl _
  | m :: more, kvs => by
    have h1 := mergeK_len more (putK kvs m.1 m.2)
    have h2 := length_putK kvs m.1 m.2
    show (mergeK (putK kvs m.1 m.2) more).length ≤ _
    rw [List.length_cons]
    omega
theorem mt_update : MtM X "dict.update" rUpdate := by
  intro pins s σ H x vs v us Q I rx rv h
  obtain ⟨a, b, kvs, more, rfl, rfl, hne, ha, hb, hz, q⟩ := h
  cases rx
  obtain ⟨u, rfl, ru⟩ := rv.one
  cases ru
  obtain ⟨z1, y1, v1, r1, d1⟩ := dk_of I.hok ha
  obtain ⟨z2, y2, v2, r2, d2⟩ := dk_of I.hok hb
  refine call_meetsIn F.slot_dict_update d1.typeIs F.entry_dict_update (F.args_dict_update_2 _ _) (meets_dict_update (mixKind X.prog X.w) a b hne y2) ⟨v1, v2, d1, d2, by rw [← r1.length, ← r2.length]; exact hz, fun h' e1 e2 hs => ?_⟩
  have he : ∃ q, h'.get? a = some q := let ⟨q, _, _, hq, _⟩ := e1; ⟨q, hq⟩
  exact ⟨.non, _, d_write (t' := s.toks) I (by rw [ha]; exact True.intro) hs he (dk_new (Nat.le_trans (mergeK_len more kvs) hz) y1 (KV.merge r2 r1) e1), rfl, q⟩
/-- l.extend(a tuple | a list) -/
def rExtT (K : PySem.W.Frag) : V → List V → Hp → VK → Prop := fun x vs H Q => ∃ l b xs zs, x = .ref l ∧ vs = [.ref b] ∧ H l = some (.lst xs) ∧ SqT K H b zs ∧ xs.length + zs.length ≤ sizeLine ∧ Q .non (upd H l (.lst (xs ++ zs)))
theorem ext_tup (l : Addr) (items : Array Value) (n : Nat) (b : Addr) (more : Array Value) (n2 : Nat) (dd : Option Addr) (sl : Array (Option Value)) (h0 : ¬ (!items.isEmpty && Builtin.List.listTooLong (items.size + more.size)) = true) (h1 : items.size ≤ sizeLine) (h2 : items.size + more.size ≤ sizeLine + 1) :
    Meets (Builtin.«list.extend» ⟨[.ref l, .ref b], []⟩) (fun _ R s => s.heap.get? l = some { cls := .type "list", dict := none, data := .seq items n, slots := #[] } ∧ s.heap.get? b = some { cls := .type "tuple", dict := dd, data := .seq more n2, slots := sl } ∧
      R (.ok (.ret Value.none)) { s with heap := s.heap.update l (Obj.mapSeq fun x => x ++ more), toks := s.toks }) :=
  .of_wp fun prog w A R s h => by
    obtain ⟨hp, g, d, tk, os⟩ := s
    obtain ⟨hl, hb, h⟩ := h
    have f2 := sub_tuple_tuple
    have f3 := sub_list_list
    have f4 := sub_tuple_list
    have f5 := sub_list_tuple
    have hz : (items ++ more).size ≤ sizeLine + 1 := by rw [Array.size_append]; exact h2
    wp_walk using (wpAny_updateSeq hl rfl (hz := h1) (_hz' := hz)), wpAny_loadPart' hl, wpAny_loadPart' hb
    exact ⟨_, rfl, h⟩
theorem mt_extT : MtM X "list.extend" (rExtT X.K) := by
  intro pins s σ H x vs v us Q I rx rv h
  obtain ⟨l, b, xs, zs, rfl, rfl, hH, hB, hz, q⟩ := h
  cases rx
  obtain ⟨u, rfl, ru⟩ := rv.one
  cases ru
  obtain ⟨z, its, n, r, hl, e⟩ := I.lstM hH
  obtain ⟨its2, r2, ⟨⟨c2, dd, dt, sl⟩, ho, hc, n2, hd⟩, hl2⟩ := I.tuple hB
  obtain rfl : c2 = .type "tuple" := hc
  obtain rfl : dt = .seq its2.toArray n2 := hd
  have l2 := r2.length
  have hsz : its.toArray.size + its2.toArray.size ≤ sizeLine := by rw [List.size_toArray, List.size_toArray]; omega
  refine call_meets F.slot_list_extend ⟨_, e, rfl⟩ F.entry_list_extend (F.args_list_extend_2 _ _) (ext_tup l its.toArray n b its2.toArray n2 dd sl (by rw [notLongL hsz, Bool.and_false]; exact Bool.false_ne_true) (by rw [List.size_toArray]; omega) (by omega)) ⟨e, ho, ?_⟩
  refine ⟨.non, _, I.lset (its' := its ++ its2) hH e (by simp) (r.append r2) ?_, rfl, q⟩
  rw [List.length_append]
  omega
/-- dict([]), to be a dict with tuples for keys -/
theorem call_dictNil (hc : X.calm = true) : CallR X (.type "dict") (fun xs H Q => ∃ a : Addr, xs = [.ref a] ∧ SqL X.K H a [] ∧ ∀ p, H p = none → Q (.ref p) (upd H p (.dT []))) := by
  intro pins s σ H xs us Q I r h
  obtain ⟨a, rfl, hq, q⟩ := h
  rw [Vals.ref1 r]
  obtain ⟨its, rv, pl, hz⟩ := I.list hq
  cases rv
  obtain ⟨o, n, ho, hcl, hd, hdat⟩ := pl
  refine call_dict_pairs (prs := []) (I.ok.hd hc) ho hcl hd hdat (by simp) (Nat.zero_le _) (fun j q' e => by simp at e) fun h' tk hd' k => ?_
  have hm : (s.heap.objs.size == sysModules) = false := beq_eq_false_iff_ne.mpr (Nat.ne_of_gt I.big)
  obtain ⟨ob, es, ep, g1, g2, g3, g4, g5⟩ := hd'
  refine ⟨.ref s.heap.objs.size, upd H s.heap.objs.size (.dT []), I.laid (t' := tk) k (Nat.le_refl _) ⟨Nat.zero_le _, hm, [], .nil, ob, es, ep, g1, g2, g3, ?_, List.nodup_nil⟩, rfl, q _ (I.hok.fresh (Nat.le_refl _))⟩
  have z := g5.1.length
  exact List.length_eq_zero_iff.mp (by simpa [merged] using z)
end
end NC
-- NcZip
set_option Elab.async false
set_option linter.all false
set_option maxRecDepth 100000
set_option maxHeartbeats 4000000
/-! list(zip(xs, ys)) of two lists of one length. -/
namespace NC
open PySem PySem.Spec PyProof.Rows L2 PySem.W
theorem nd_inj {α : Type} {l : List α} (h : l.Nodup) {i j : Nat} {a : α} (hi : l[i]? = some a) (hj : l[j]? = some a) : i = j := by
  obtain ⟨h1, e1⟩ := List.getElem?_eq_some_iff.mp hi
  obtain ⟨h2, e2⟩ := List.getElem?_eq_some_iff.mp hj
  rcases Nat.lt_trichotomy i j with c | c | c
  · exact absurd (e1.trans e2.symm) (List.pairwise_iff_getElem.mp h i j h1 h2 c)
  · exact c
  · exact absurd (e2.trans e1.symm) (List.pairwise_iff_getElem.mp h j i h2 h1 c)
theorem zip_no_len : typeLookup (.type "zip") "__len__" = pure none := by rw [typeLookup_type, builtinLookup_eq_fast]; kernel_rfl
theorem zip_no_hint : typeLookup (.type "zip") "__length_hint__" = pure none := by rw [typeLookup_type, builtinLookup_eq_fast]; kernel_rfl
section
variable {P : Program} {w : World} {A : Around} {E : Value → Shared → Prop} {s : Shared} {R : Result → Shared → Prop} {z TI TO i1 i2 l1 l2 : Addr} {xs ys : List Value}
/-- where a zip stands behind k items, the tuples Ts given out and kept -/
structure ZipSt (z TI TO i1 i2 l1 l2 : Addr) (xs ys : List Value) (Ts : List Addr) (h : Heap) : Prop where
  hz : (Ts = [] ∧ IsZip h z TI TO .none) ∨ ∃ T f, T ∈ Ts ∧ IsZipHeld h z TI TO T f
  hTO : ∃ a b, IsPair h TO a b
  hTI : IsPair h TI (.ref i1) (.ref i2)
  a1 : h.IsListIter i1 l1 Ts.length
  a2 : h.IsListIter i2 l2 Ts.length
  b1 : h.IsList l1 xs.toArray
  b2 : h.IsList l2 ys.toArray
  pr : ∀ (j : Nat) (T : Addr), Ts[j]? = some T → ∃ x y, xs[j]? = some x ∧ ys[j]? = some y ∧ IsPair h T x y
  ap : ∀ T ∈ Ts, T ≠ z ∧ T ≠ TO ∧ T ≠ i1 ∧ T ≠ i2
  nd : Ts.Nodup
  hi : ∀ T ∈ Ts, i1 ≤ T
/-- only the list S (and new things) may have changed -/
theorem ZipSt.keep {Ts : List Addr} {h h' : Heap} (Z : ZipSt z TI TO i1 i2 l1 l2 xs ys Ts h) {S : Addr} (nS : ∀ b ∈ [z, TI, TO, i1, i2, l1, l2], b ≠ S) (nT : ∀ T ∈ Ts, T ≠ S) (k : ∀ b o, b ≠ S → h.get? b = some o → h'.get? b = some o) : ZipSt z TI TO i1 i2 l1 l2 xs ys Ts h' where
  hTO := let ⟨a, b, p⟩ := Z.hTO; ⟨a, b, k _ _ (nS _ (by simp)) p⟩
  hz := Z.hz.imp (fun ⟨e, q⟩ => ⟨e, k _ _ (nS _ (by simp)) q⟩) fun ⟨T, f, m, q⟩ => ⟨T, f, m, k _ _ (nS _ (by simp)) q⟩
  hTI := k _ _ (nS _ (by simp)) Z.hTI
  a1 := Z.a1.at fun o e => k _ _ (nS _ (by simp)) e
  a2 := Z.a2.at fun o e => k _ _ (nS _ (by simp)) e
  b1 := Z.b1.at fun o e => k _ _ (nS _ (by simp)) e
  b2 := Z.b2.at fun o e => k _ _ (nS _ (by simp)) e
  pr := fun j T e => let ⟨x, y, h1, h2, h3⟩ := Z.pr j T e; ⟨x, y, h1, h2, k _ _ (nT T (List.mem_of_getElem? e)) h3⟩
  ap := Z.ap
  nd := Z.nd
  hi := Z.hi
/-- a further item -/
theorem zip_step {Ts : List Addr} {x y : Value} {Q : Option Value → Shared → Prop} (D : ZipApart z TI TO i1 i2 l1 l2) (Z : ZipSt z TI TO i1 i2 l1 l2 xs ys Ts s.heap) (hx : xs[Ts.length]? = some x) (hy : ys[Ts.length]? = some y)
    (hQ : ∀ h' T, s.heap.get? T = none → ZipSt z TI TO i1 i2 l1 l2 xs ys (Ts ++ [T]) h' → (∀ c o, c ≠ z → c ≠ TO → c ≠ i1 → c ≠ i2 → s.heap.get? c = some o → h'.get? c = some o) → Q (some (.ref T)) { s with heap := h' }) : wpAny (model P w) A (pyNext (.ref z)) Q E s := by
  have new : s.heap.get? s.heap.objs.size = none := by
    cases q : s.heap.get? s.heap.objs.size with
    | none => rfl
    | some o => exact absurd (Heap.lt_size q) (Nat.lt_irrefl _)
  have there : ∀ {b : Addr} {o : Obj}, s.heap.get? b = some o → s.heap.objs.size ≠ b := fun e q => by rw [← q, new] at e; cases e
  have nz : s.heap.objs.size ≠ z := by
    rcases Z.hz with ⟨_, q⟩ | ⟨_, _, _, q⟩ <;> exact there q
  have nTO : s.heap.objs.size ≠ TO := by obtain ⟨_, _, q⟩ := Z.hTO; exact there q
  have ni1 : s.heap.objs.size ≠ i1 := by obtain ⟨o, q, _⟩ := Z.a1; exact there q
  have ni2 : s.heap.objs.size ≠ i2 := by obtain ⟨o, q, _⟩ := Z.a2; exact there q
  have grow : ∀ (h' : Heap), (∃ a b, IsPair h' TO a b) → (∃ T f, T ∈ Ts ++ [s.heap.objs.size] ∧ IsZipHeld h' z TI TO T f) → h'.IsListIter i1 l1 (Ts.length + 1) → h'.IsListIter i2 l2 (Ts.length + 1) → IsPair h' s.heap.objs.size x y → (∀ c o, c ≠ z → c ≠ TO → c ≠ i1 → c ≠ i2 → s.heap.get? c = some o → h'.get? c = some o) → ZipSt z TI TO i1 i2 l1 l2 xs ys (Ts ++ [s.heap.objs.size]) h' := fun h' hTO hz2 q1 q2 qp k => by
    refine ⟨.inr hz2, hTO, k _ _ D.TIz D.TITO D.TIi1 D.TIi2 Z.hTI, by rw [List.length_append]; exact q1, by rw [List.length_append]; exact q2, Z.b1.at fun o e => k _ _ D.l1z D.l1TO D.l1i1 D.l1i2 e, Z.b2.at fun o e => k _ _ D.l2z D.l2TO D.l2i1 D.l2i2 e, fun j T e => ?_, fun T hT => ?_, List.nodup_append.mpr ⟨Z.nd, by simp, fun T hT U hU e => ?_⟩, fun T hT => ?_⟩
    · rcases Nat.lt_trichotomy j Ts.length with c | c | c
      · rw [List.getElem?_append_left c] at e
        obtain ⟨u, v, h1, h2, h3⟩ := Z.pr j T e
        obtain ⟨n1, n2, n3, n4⟩ := Z.ap T (List.mem_of_getElem? e)
        exact ⟨u, v, h1, h2, k _ _ n1 n2 n3 n4 h3⟩
      · subst c
        rw [List.getElem?_append_right (Nat.le_refl _), Nat.sub_self] at e
        obtain rfl : s.heap.objs.size = T := Option.some.inj e
        exact ⟨x, y, hx, hy, qp⟩
      · rw [List.getElem?_eq_none (by rw [List.length_append]; exact c)] at e
        cases e
    · rcases List.mem_append.mp hT with hT | hT
      · exact Z.ap T hT
      · rw [List.mem_singleton.mp hT]
        exact ⟨nz, nTO, ni1, ni2⟩
    · obtain ⟨j, hj⟩ := List.mem_iff_getElem?.mp hT
      obtain ⟨_, _, _, _, h3⟩ := Z.pr j T hj
      rw [List.mem_singleton.mp hU] at e
      exact there h3 e.symm
    · rcases List.mem_append.mp hT with hT | hT
      · exact Z.hi T hT
      · rw [List.mem_singleton.mp hT]
        obtain ⟨o, q, _⟩ := Z.a1
        exact Nat.le_of_lt (Heap.lt_size q)
  have hx' : xs.toArray[Ts.length]? = some x := by simpa using hx
  have hy' : ys.toArray[Ts.length]? = some y := by simpa using hy
  obtain ⟨a, b, p⟩ := Z.hTO
  rcases Z.hz with ⟨e0, q⟩ | ⟨T, f, m, q⟩
  · refine wpAny_pyNext_zip_item D q Z.hTI p Z.a1 Z.a2 Z.b1 Z.b2 hx' hy' fun h' g1 g2 g3 g4 g5 g6 g7 => ?_
    exact hQ h' _ new (grow h' ⟨_, _, g2⟩ ⟨_, false, List.mem_append_right _ List.mem_cons_self, g1⟩ g3 g4 g5 g7) g7
  · obtain ⟨j, hj⟩ := List.mem_iff_getElem?.mp m
    obtain ⟨u, v, _, _, hp⟩ := Z.pr j T hj
    refine wpAny_pyNext_zip_item_held D q hp Z.hTI Z.a1 Z.a2 Z.b1 Z.b2 hx' hy' fun h' g1 g3 g4 g5 g6 g7 => ?_
    have g8 : ∀ c o, c ≠ z → c ≠ TO → c ≠ i1 → c ≠ i2 → s.heap.get? c = some o → h'.get? c = some o := fun c o n1 _ n3 n4 e => g7 c o n1 n3 n4 e
    exact hQ h' _ new (grow h' ⟨_, _, g7 _ _ D.TOz D.TOi1 D.TOi2 p⟩ ⟨T, true, List.mem_append_left _ m, g1⟩ g3 g4 g5 g8) g8
/-- the end -/
theorem zip_stop {Ts : List Addr} {Q : Option Value → Shared → Prop} (hh : A.handled = none) (D : ZipApart z TI TO i1 i2 l1 l2) (Z : ZipSt z TI TO i1 i2 l1 l2 xs ys Ts s.heap) (he : xs.length ≤ Ts.length)
    (hQ : ∀ h', (∀ c o, c ≠ z → c ≠ TO → c ≠ i1 → c ≠ i2 → s.heap.get? c = some o → h'.get? c = some o) → Q none { s with heap := h' }) : wpAny (model P w) A (pyNext (.ref z)) Q E s := by
  have hx : xs.toArray[Ts.length]? = none := by simpa using he
  obtain ⟨a, b, p⟩ := Z.hTO
  rcases Z.hz with ⟨e0, q⟩ | ⟨T, f, m, q⟩
  · exact wpAny_pyNext_zip_end hh D q Z.hTI p Z.a1 Z.a2 Z.b1 Z.b2 (.inl hx) hQ
  · obtain ⟨j, hj⟩ := List.mem_iff_getElem?.mp m
    obtain ⟨u, v, _, _, hp⟩ := Z.pr j T hj
    exact wpAny_pyNext_zip_end_held hh D q hp Z.hTI Z.a1 Z.a2 Z.b1 Z.b2 (.inl hx) fun h' k => hQ h' fun c o n1 _ n3 n4 e => k c o n1 n3 n4 e
/-- the list S takes them all; h0: what stays -/
theorem zip_loop {S : Addr} {h0 : Heap} {res : Value} (hh : A.handled = none) (D : ZipApart z TI TO i1 i2 l1 l2) (nS : ∀ b ∈ [z, TI, TO, i1, i2, l1, l2], b ≠ S) (hl : ys.length = xs.length) (hn : xs.length ≤ sizeLine) (n0 : ∀ b ∈ [S, z, TO, i1, i2], h0.get? b = none) :
    ∀ (m : Nat) (Ts : List Addr) (c : Nat) (s : Shared), xs.length = Ts.length + m → ZipSt z TI TO i1 i2 l1 l2 xs ys Ts s.heap → s.heap.get? S = some { cls := .type "list", dict := none, data := .seq (Ts.map Value.ref).toArray c, slots := #[] } → S ∉ Ts → (∀ b o, h0.get? b = some o → s.heap.get? b = some o) →
      (∀ (h' : Heap) (Ts' : List Addr) (c' : Nat), Ts'.length = xs.length → Ts'.Nodup ∧ (∀ T ∈ Ts', i1 ≤ T ∧ T ≠ S) → (∀ (j : Nat) (T : Addr), Ts'[j]? = some T → ∃ x y, xs[j]? = some x ∧ ys[j]? = some y ∧ IsPair h' T x y) → h'.get? S = some { cls := .type "list", dict := none, data := .seq (Ts'.map Value.ref).toArray c', slots := #[] } → (∀ b o, h0.get? b = some o → h'.get? b = some o) → R (.ok (.ret res)) { s with heap := h' }) →
      codeAny (model P w) A (.builtin "list.extend.loop" ⟨[.ref S, .ref z, res], []⟩) R s := by
  have apart : ∀ {b : Addr} {o : Obj}, h0.get? b = some o → ∀ c ∈ [S, z, TO, i1, i2], b ≠ c := fun e c hc q => by
    have := n0 c hc
    rw [← q, e] at this
    cases this
  intro m
  induction m with
  | zero =>
    intro Ts c s e Z hS nT old k
    refine codeAny_builtin F.entry_extend_loop ?_
    rw [Around.under_plainId F.plain_extend_loop _]
    refine wpAny_bind (zip_stop (A := A.in1) hh D Z (by omega) fun h' kk => wpAny_pure ?_)
    refine k h' Ts c (by omega) ⟨Z.nd, fun T hT => ⟨Z.hi T hT, fun q => nT (q ▸ hT)⟩⟩ (fun j T ej => ?_) (kk _ _ (nS z (by simp)).symm (nS TO (by simp)).symm (nS i1 (by simp)).symm (nS i2 (by simp)).symm hS) fun b o q => kk _ _ (apart q _ (by simp)) (apart q _ (by simp)) (apart q _ (by simp)) (apart q _ (by simp)) (old b o q)
    obtain ⟨x, y, h1, h2, h3⟩ := Z.pr j T ej
    obtain ⟨n1, n2, n3, n4⟩ := Z.ap T (List.mem_of_getElem? ej)
    exact ⟨x, y, h1, h2, kk _ _ n1 n2 n3 n4 h3⟩
  | succ m ih =>
    intro Ts c s e Z hS nT old k
    have lt : Ts.length < xs.length := by omega
    refine codeAny_builtin F.entry_extend_loop ?_
    rw [Around.under_plainId F.plain_extend_loop _]
    refine wpAny_bind (zip_step (A := A.in1) D Z (List.getElem?_eq_getElem lt) (List.getElem?_eq_getElem (by omega)) fun h' T nT' Z' kk => ?_)
    have hS' := kk _ _ (nS z (by simp)).symm (nS TO (by simp)).symm (nS i1 (by simp)).symm (nS i2 (by simp)).symm hS
    have TS : T ≠ S := fun q => by rw [q, hS] at nT'; cases nT'
    have sz : (Ts.map Value.ref).toArray.size = Ts.length := by simp
    have z2 := get?_update_seq (c := "list") hS' (·.push (Value.ref T))
    have earr : (Ts.map Value.ref).toArray.push (Value.ref T) = ((Ts ++ [T]).map Value.ref).toArray := by simp
    rw [earr] at z2
    show wpAny _ A.in1 (updateSeq S (·.push (.ref T)) >>= _) _ _ _
    refine wpAny_bind (wpAny_updateSeq hS' rfl (wpAny_pure ⟨plainId_quiet F.plain_extend_loop _, ih (Ts ++ [T]) _ _ (by rw [List.length_append]; show _ = _ + 1 + m; omega) (Z'.keep nS (fun U hU => ?_) fun b o nb q => (Heap.get?_update_other _ _ (Ne.symm nb)).trans q) z2 (fun q => ?_) (fun b o q => ?_) k⟩) (by rw [sz]; omega) (by rw [Array.size_push, sz]; omega))
    · rcases List.mem_append.mp hU with hU | hU
      · exact fun q => nT (q ▸ hU)
      · rw [List.mem_singleton.mp hU]
        exact TS
    · rcases List.mem_append.mp q with q | q
      · exact nT q
      · exact TS (List.mem_singleton.mp q).symm
    · exact (Heap.get?_update_other _ _ (Ne.symm (apart q _ (by simp)))).trans (kk _ _ (apart q _ (by simp)) (apart q _ (by simp)) (apart q _ (by simp)) (apart q _ (by simp)) (old b o q))
end
section
variable {P : Program} {w : World} {A : Around} {E : Value → Shared → Prop} {s : Shared}
theorem call_list_zip {z TI TO i1 i2 l1 l2 : Addr} {xs ys : List Value} {h0 : Heap} {Q : Value → Shared → Prop} (hh : A.handled = none) (D : ZipApart z TI TO i1 i2 l1 l2) (Z : ZipSt z TI TO i1 i2 l1 l2 xs ys [] s.heap) (hz : IsZip s.heap z TI TO .none) (hl : ys.length = xs.length) (hn : xs.length ≤ sizeLine)
    (lo : ∀ b ∈ [z, TI, TO, i1, i2, l1, l2], b < s.heap.objs.size) (n0 : ∀ b ∈ [s.heap.objs.size, z, TO, i1, i2], h0.get? b = none) (old : ∀ b o, h0.get? b = some o → s.heap.get? b = some o)
    (hQ : ∀ (h' : Heap) (Ts : List Addr) (c : Nat), Ts.length = xs.length → Ts.Nodup ∧ (∀ T ∈ Ts, i1 ≤ T ∧ T ≠ s.heap.objs.size) → (∀ (j : Nat) (T : Addr), Ts[j]? = some T → ∃ x y, xs[j]? = some x ∧ ys[j]? = some y ∧ IsPair h' T x y) → h'.get? s.heap.objs.size = some { cls := .type "list", dict := none, data := .seq (Ts.map Value.ref).toArray c, slots := #[] } →
      (∀ b o, h0.get? b = some o → h'.get? b = some o) → Q (.ref s.heap.objs.size) { s with heap := h' }) : wpAny (model P w) A (call (.type "list") [.ref z]) Q E s := by
  have nS : ∀ b ∈ [z, TI, TO, i1, i2, l1, l2], b ≠ s.heap.objs.size := fun b hb => Nat.ne_of_lt (lo b hb)
  refine callType_codes (Q₁ := fun obj s1 => obj = .ref s.heap.objs.size ∧ s1 = { s with heap := s.heap.push { cls := .type "list", data := .seq #[] } }) F.called_list (F.typeCall_list_1 _) F.entry_list_init (code_list_new _ ⟨rfl, rfl⟩) fun obj s1 h1 => ?_
  obtain ⟨rfl, rfl⟩ := h1
  have hS : (s.heap.push { cls := .type "list", data := .seq #[] }).get? s.heap.objs.size = some (seqObj "list" #[] 0) := Heap.get?_push_size _ rfl
  refine ⟨⟨_, hS, rfl⟩, F.args_list_init_2 _ _, ?_⟩
  show wpAny _ A.in1.in1 (do let old ← Builtin.List.listItems (.ref s.heap.objs.size); Builtin.List.listUpdate (.ref s.heap.objs.size) (fun _ => #[]); letGo old.toList.reverse; Builtin.List.listExtendWith (.ref s.heap.objs.size) (.ref z) .none) _ _ _
  refine wpAny_bind ?_
  unfold Builtin.List.listItems
  refine wpAny_bind (wpAny_seqItems hS rfl (wpAny_pure ?_))
  show wpAny _ A.in1.in1 (updateSeq s.heap.objs.size (fun _ => #[]) >>= fun _ => letGo (#[] : Array Value).toList.reverse >>= fun _ => Builtin.List.listExtendWith (.ref s.heap.objs.size) (.ref z) .none) _ _ _
  refine wpAny_bind (wpAny_updateSeq hS rfl (wpAny_bind (wpAny_letGo ?_)))
  have hS2 := get?_update_seq (c := "list") hS (fun _ => (#[] : Array Value))
  have keep2 : ∀ b o, b ≠ s.heap.objs.size → s.heap.get? b = some o → ((s.heap.push { cls := .type "list", data := .seq #[] }).update s.heap.objs.size (Obj.mapSeq fun _ => (#[] : Array Value))).get? b = some o := fun b o nb e => (Heap.get?_update_other _ _ (Ne.symm nb)).trans (Heap.get?_push_of_some _ e)
  generalize (s.heap.push { cls := .type "list", data := .seq #[] }).update s.heap.objs.size (Obj.mapSeq fun _ => (#[] : Array Value)) = h2 at hS2 keep2 ⊢
  have hz2 : IsZip h2 z TI TO .none := keep2 _ _ (nS z (by simp)) hz
  have hT : Shared.TypeIs { s with heap := h2 } (.ref z) "zip" := ⟨_, hz2, rfl⟩
  unfold Builtin.List.listExtendWith
  refine wpAny_bind (wpAny_typeOf hT ?_)
  have q1 : Builtin.List.listSameRef (.ref s.heap.objs.size) (.ref z) = false := by simp [Builtin.List.listSameRef, (nS z (by simp)).symm]
  have q2 : (Value.type "zip" == Value.type "list") = false := by decide
  have q3 : (Value.type "zip" == Value.type "tuple") = false := by decide
  simp only [q1, q2, q3, Bool.or_false, Bool.false_eq_true, if_false]
  refine wpAny_bind (wpAny_pyIter_zip hz2 (wpAny_bind (wpAny_holding ?_)))
  unfold Builtin.List.listLengthHint
  refine wpAny_bind (wpAny_specialOf hT zip_no_len ?_)
  show wpAny _ A.in1.in1 (specialOf (Value.ref z) (Str.ofString "__length_hint__") >>= _) _ _ _
  refine wpAny_bind (wpAny_specialOf hT zip_no_hint (wpAny_pure ?_))
  show wpAny _ A.in1.in1 (rule "list.extend.makes-room" >>= fun _ => Builtin.List.listTouch (.ref s.heap.objs.size) >>= fun _ => again (.builtin "list.extend.loop" ⟨[.ref s.heap.objs.size, .ref z, .none], []⟩)) _ _ _
  refine wpAny_bind (wpAny_rule (wpAny_bind ?_))
  show wpAny _ A.in1.in1 (updateSeq s.heap.objs.size (·.push .none) >>= fun _ => updateSeq s.heap.objs.size (·.pop)) _ _ _
  refine wpAny_bind (wpAny_updateSeq hS2 rfl ?_)
  have hS3 := get?_update_seq (c := "list") hS2 (·.push Value.none)
  refine wpAny_updateSeq (hz := by seq_fits) hS3 rfl ?_
  have hS4 := get?_update_seq (c := "list") hS3 (·.pop)
  have keep4 : ∀ b o, b ≠ s.heap.objs.size → s.heap.get? b = some o → ((h2.update s.heap.objs.size (Obj.mapSeq (·.push Value.none))).update s.heap.objs.size (Obj.mapSeq (·.pop))).get? b = some o := fun b o nb e => (Heap.get?_update_other _ _ (Ne.symm nb)).trans ((Heap.get?_update_other _ _ (Ne.symm nb)).trans (keep2 b o nb e))
  have nS0 : ∀ b o, h0.get? b = some o → b ≠ s.heap.objs.size := fun b o e q => by
    have := n0 s.heap.objs.size (by simp)
    rw [← q, e] at this
    cases this
  refine wpAny_pure ⟨plainId_quiet F.plain_extend_loop _, ?_⟩
  refine zip_loop (A := A.in1) (h0 := h0) hh D nS hl hn n0 xs.length [] _ _ (by simp) (Z.keep nS (fun T hT => by simp at hT) keep4) hS4 (by simp) (fun b o e => keep4 b o (nS0 b o e) (old b o e)) fun h' Ts c a1 a0 a2 a3 a4 => ?_
  exact ⟨rfl, hQ h' Ts c a1 a0 a2 a3 a4⟩
end
/-- list(zip(a, b)) of two lists of one length: a list of new pairs -/
def tListZip (K : PySem.W.Frag) (ta : TA) : TE := fun σ H Q => ta σ H fun vs H1 => ∃ (a b : Addr) (xs ys : List V), vs = [.ref a, .ref b] ∧ SqL K H1 a xs ∧ SqL K H1 b ys ∧ ys.length = xs.length ∧
  ∀ (p : Addr) (Ts : List Addr) (H2 : Hp), Same H1 H2 → H1 p = none → Ts.length = xs.length → (∀ (j : Nat) (T : Addr), Ts[j]? = some T → ∃ x y, xs[j]? = some x ∧ ys[j]? = some y ∧ H2 T = some (.tup [x, y])) → H2 p = some (.lst (Ts.map V.ref)) → Q (.ref p) H2
section
variable {X : Cx}
theorem pe_listZip {e e2 : Expr} {ta : TA} {p p2 q pos : Pos} (hc : X.calm = true) (hg : Gl X "list") (hm : X.mg "list" = none) (hg2 : Gl X "zip") (hm2 : X.mg "zip" = none) (ha : PA X [e, e2] ta)
    (hs : starEach [e, e2] X.env = (false, eval e X.env) :: starEach [e2] X.env := by rfl) (hpl : (backTo q (starEach [e2] X.env)).any (·.1) = false := by rfl) :
    PE X (.Call (.Name "list" p) [.Call (.Name "zip" p2) [e, e2] [] q] [] pos) (tListZip X.K ta) := by
  refine ⟨fun pins s σ H Q I h => ?_⟩
  refine Call_ (ld_blt I hg hm (show bootBuiltins (Str.ofString "list") = some (.type "list") by decide +kernel) ?_)
  refine PyProof.Rows.callWith_type1 (PyProof.Rows.args_cons ?_ rfl) rfl rfl
  refine Call_ (ld_blt I hg2 hm2 PyProof.Rows.boot_zip (PyProof.Rows.callWith_type1 (thn (ha.run q pins s σ H _ I h) fun us s1 ⟨vs, H1, I1, r1, q1⟩ => ?_) hs hpl))
  obtain ⟨a, b, xs, ys, rfl, hqx, hqy, hl, q1⟩ := q1
  cases r1 with
  | cons r rr =>
    cases rr with
    | cons r' rr =>
      cases rr
      cases r
      cases r'
      obtain ⟨its, rv, p1, hz1⟩ := I1.list hqx
      obtain ⟨its2, rv2, p2', hz2⟩ := I1.list hqy
      have e1 := rv.length
      have e2 := rv2.length
      have la : a < s1.heap.objs.size := p1.lt
      have lb : b < s1.heap.objs.size := p2'.lt
      refine call_zip_2 p1.isList p2'.isList fun h1 z1 z2 z3 z4 z5 z6 z7 => PyProof.Rows.args_nil ?_
      have D : ZipApart (s1.heap.objs.size + 4) (s1.heap.objs.size + 2) (s1.heap.objs.size + 3) s1.heap.objs.size (s1.heap.objs.size + 1) a b := ktu_apart _ _ _ la lb
      have none0 : ∀ c, s1.heap.objs.size ≤ c → s1.heap.get? c = none := fun c hc => by
        cases w : s1.heap.get? c with
        | none => rfl
        | some o => exact absurd (Heap.lt_size w) (Nat.not_lt.mpr hc)
      refine call_list_zip (s := { s1 with heap := h1 }) (h0 := s1.heap) (xs := its) (ys := its2) (I1.ok.hd hc) D ⟨.inl ⟨rfl, z1⟩, ⟨_, _, z3⟩, z2, z4, z5, p1.isList.at fun o w => z7 _ o w, p2'.isList.at fun o w => z7 _ o w, fun j T w => by simp at w, fun T hT => by simp at hT, List.nodup_nil, fun T hT => by simp at hT⟩ z1 (by omega) (by omega) ?_ ?_ z7 fun h' Ts c t1 t0 t2 t3 t4 => ?_
      · intro c hcm
        show c < h1.objs.size
        rw [z6]
        simp only [List.mem_cons, List.not_mem_nil, or_false] at hcm
        have la' : (a : Nat) < s1.heap.objs.size := la
        have lb' : (b : Nat) < s1.heap.objs.size := lb
        rcases hcm with rfl | rfl | rfl | rfl | rfl | rfl | rfl <;> first | exact Nat.lt_add_of_pos_right (by decide) | exact Nat.lt_succ_self _ | (refine Nat.lt_of_lt_of_le ?_ (Nat.le_add_right _ 5); assumption) | (exact Nat.add_lt_add_left (by decide) _)
      · intro c hcm
        refine none0 c ?_
        simp only [List.mem_cons, List.not_mem_nil, or_false] at hcm
        rcases hcm with rfl | rfl | rfl | rfl | rfl
        · show s1.heap.objs.size ≤ h1.objs.size
          rw [z6]
          exact Nat.le_add_right _ _
        all_goals first | exact Nat.le_refl _ | exact Nat.le_add_right _ _
      · have I2 : Inv X pins σ H1 { s1 with heap := h' } := I1.kept (t' := s1.toks) t4
        have fresh : ∀ c, s1.heap.objs.size ≤ c → H1 c = none := fun c hcm => I1.hok.fresh hcm
        have nS : H1 h1.objs.size = none := fresh _ (by rw [z6]; exact Nat.le_add_right _ _)
        have lz : (Ts.map V.ref).length ≤ sizeLine := by rw [List.length_map, t1]; omega
        have I3 : Inv X pins σ (upd H1 h1.objs.size (.lst (Ts.map V.ref))) { s1 with heap := h' } :=
          I2.take (h' := h') (t' := s1.toks) (fun b ob _ e => e) (I1.fpOk (by rw [z6]; exact Nat.le_add_right _ _) nS) ⟨lz, Ts.map Value.ref, c, vals_refs Ts, t3⟩
        -- the pairs
        obtain ⟨H2, I4, g1, g2⟩ := L2.DX.takeT (h' := h') (tk := s1.toks) (P := fun T vs => ∀ (j : Nat), Ts[j]? = some T → ∃ x y, xs[j]? = some x ∧ ys[j]? = some y ∧ vs = [x, y]) I1 Ts _ I3 t0.1 fun T hT => by
          obtain ⟨j, hj⟩ := List.mem_iff_getElem?.mp hT
          obtain ⟨x, y, hx, hy, hp⟩ := t2 j T hj
          have jl : j < its.length := (List.getElem?_eq_some_iff.mp hx).1
          have x1 : xs[j]? = some xs[j] := List.getElem?_eq_getElem (by omega)
          have y1 : ys[j]? = some ys[j] := List.getElem?_eq_getElem (by omega)
          obtain ⟨u, hu, ru⟩ := rv.get x1
          obtain ⟨v, hv, rv'⟩ := rv2.get y1
          rw [hx] at hu
          rw [hy] at hv
          cases hu
          cases hv
          refine ⟨(t0.2 T hT).1, (upd_ne (t0.2 T hT).2).trans (fresh _ (t0.2 T hT).1), [xs[j], ys[j]], fun k hk => ?_, fun H3 => ⟨by show 2 ≤ sizeLine; decide, [x, y], .cons ru (.cons rv' .nil), _, hp, rfl, _, rfl⟩⟩
          obtain rfl : j = k := nd_inj t0.1 hj hk
          exact ⟨_, _, x1, y1, rfl⟩
        refine ⟨.ref h1.objs.size, H2, I4, rfl, q1 _ Ts H2 (fun b o w => g1 b o (upd_new nS b o w)) nS (by omega) (fun j T hj => ?_) (g1 _ _ upd_same)⟩
        obtain ⟨vs, hvs, hT⟩ := g2 T (List.mem_of_getElem? hj)
        obtain ⟨x, y, hx, hy, e⟩ := hvs j hj
        rw [e] at hT
        exact ⟨x, y, hx, hy, hT⟩
end
end NC
-- NcMod
set_option Elab.async false
set_option linter.all false
set_option maxRecDepth 100000
set_option maxHeartbeats 4000000
/-! Plain statements and what holds: namings of a list of statements, tables, sorted texts. -/
namespace NC
open PySem PySem.Spec PyProof.Rows L2 PySem.W
/-- does it hold on all of b..e | on some of it -/
def hold (all : Bool) (b e : Int) : Plain → Bool
  | .nam _ _ _ b0 e0 => (decide (b0 ≤ b) && decide (e ≤ e0)) || (!all && (decide (b0 ≤ e) && decide (b ≤ e0)))
  | .lev .. => false
/-- the namings that f takes, from index i on -/
def namsFrom (f : Plain → Bool) : Nat → List Plain → List (Nam Str)
  | _, [] => []
  | i, .nam w n c b e :: xs => if f (.nam w n c b e) = true then ⟨i, w, n, c⟩ :: namsFrom f (i + 1) xs else namsFrom f (i + 1) xs
  | i, .lev .. :: xs => namsFrom f (i + 1) xs
def nams (f : Plain → Bool) (xs : List Plain) : List (Nam Str) := namsFrom f 0 xs
theorem namsFrom_snoc (f : Plain → Bool) : ∀ (xs : List Plain) (i : Nat) (x : Plain), namsFrom f i (xs ++ [x]) = namsFrom f i xs ++ namsFrom f (i + xs.length) [x]
  | [], i, x => by simp [namsFrom]
  | .nam w n c b e :: xs, i, x => by
    have ih := namsFrom_snoc f xs (i + 1) x
    rw [List.cons_append, namsFrom, namsFrom, ih, List.length_cons, show i + 1 + xs.length = i + (xs.length + 1) by omega]
    split
    · rw [List.cons_append]
    · rfl
  | .lev .. :: xs, i, x => by
    have ih := namsFrom_snoc f xs (i + 1) x
    rw [List.cons_append, namsFrom, namsFrom, ih, List.length_cons, show i + 1 + xs.length = i + (xs.length + 1) by omega]
theorem nams_take (f : Plain → Bool) (xs : List Plain) (i : Nat) (x : Plain) (h : xs[i]? = some x) : nams f (xs.take (i + 1)) = nams f (xs.take i) ++ namsFrom f i [x] := by
  have hl : i < xs.length := (List.getElem?_eq_some_iff.mp h).1
  unfold nams
  rw [List.take_add_one, h, Option.toList_some, namsFrom_snoc, List.length_take, Nat.min_eq_left (Nat.le_of_lt hl), Nat.zero_add]
theorem mem_namsFrom {f : Plain → Bool} : ∀ {xs : List Plain} {i : Nat} {m : Nam Str}, m ∈ namsFrom f i xs ↔ ∃ b e, xs[m.ix - i]? = some (.nam m.who m.word m.chain b e) ∧ i ≤ m.ix ∧ f (.nam m.who m.word m.chain b e) = true
  | [], i, m => by simp [namsFrom]
  | x :: xs, i, m => by
    have ih := mem_namsFrom (f := f) (xs := xs) (i := i + 1) (m := m)
    have tail : m ∈ namsFrom f (i + 1) xs ↔ ∃ b e, (x :: xs)[m.ix - i]? = some (.nam m.who m.word m.chain b e) ∧ i + 1 ≤ m.ix ∧ f (.nam m.who m.word m.chain b e) = true := by
      rw [ih]
      constructor
      · rintro ⟨b, e, h1, h2, h3⟩
        refine ⟨b, e, ?_, h2, h3⟩
        rw [show m.ix - i = m.ix - (i + 1) + 1 by omega, List.getElem?_cons_succ]
        exact h1
      · rintro ⟨b, e, h1, h2, h3⟩
        refine ⟨b, e, ?_, h2, h3⟩
        rw [show m.ix - i = m.ix - (i + 1) + 1 by omega, List.getElem?_cons_succ] at h1
        exact h1
    cases x with
    | lev who g t1 t2 b e o =>
      rw [namsFrom, tail]
      constructor
      · rintro ⟨b', e', h1, h2, h3⟩
        exact ⟨b', e', h1, by omega, h3⟩
      · rintro ⟨b', e', h1, h2, h3⟩
        refine ⟨b', e', h1, ?_, h3⟩
        rcases Nat.lt_or_ge i m.ix with z | z
        · exact z
        · rw [show m.ix - i = 0 by omega] at h1
          cases h1
    | nam w n c b e =>
      have key : (∃ b' e', (Plain.nam w n c b e :: xs)[m.ix - i]? = some (.nam m.who m.word m.chain b' e') ∧ i ≤ m.ix ∧ f (.nam m.who m.word m.chain b' e') = true) ↔ (m = ⟨i, w, n, c⟩ ∧ f (.nam w n c b e) = true) ∨ ∃ b' e', (Plain.nam w n c b e :: xs)[m.ix - i]? = some (.nam m.who m.word m.chain b' e') ∧ i + 1 ≤ m.ix ∧ f (.nam m.who m.word m.chain b' e') = true := by
        constructor
        · rintro ⟨b', e', h1, h2, h3⟩
          rcases Nat.lt_or_ge i m.ix with z | z
          · exact .inr ⟨b', e', h1, z, h3⟩
          · have e0 : m.ix = i := by omega
            rw [show m.ix - i = 0 by omega] at h1
            obtain ⟨ix, who, word, chain⟩ := m
            simp only at h1 h3 e0
            simp only [List.getElem?_cons_zero, Option.some.injEq, Plain.nam.injEq] at h1
            obtain ⟨rfl, rfl, rfl, rfl, rfl⟩ := h1
            exact .inl ⟨by rw [e0], h3⟩
        · rintro (⟨rfl, h3⟩ | ⟨b', e', h1, h2, h3⟩)
          · exact ⟨b, e, by simp, Nat.le_refl _, h3⟩
          · exact ⟨b', e', h1, by omega, h3⟩
      rw [namsFrom, key]
      split
      · rename_i hf
        rw [List.mem_cons, tail]
        exact ⟨fun h => h.imp (fun e => ⟨e, hf⟩) id, fun h => h.imp (fun e => e.1) id⟩
      · rename_i hf
        rw [tail]
        exact ⟨.inr, fun h => h.elim (fun e => absurd e.2 hf) id⟩
theorem mem_nams {f : Plain → Bool} {xs : List Plain} {m : Nam Str} : m ∈ nams f xs ↔ ∃ b e, xs[m.ix]? = some (.nam m.who m.word m.chain b e) ∧ f (.nam m.who m.word m.chain b e) = true := by
  unfold nams
  rw [mem_namsFrom, Nat.sub_zero]
  exact ⟨fun ⟨b, e, h1, _, h3⟩ => ⟨b, e, h1, h3⟩, fun ⟨b, e, h1, h3⟩ => ⟨b, e, h1, Nat.zero_le _, h3⟩⟩
theorem namsFrom_ix {f : Plain → Bool} : ∀ (xs : List Plain) (i : Nat), (namsFrom f i xs).Pairwise fun a b => a.ix < b.ix
  | [], _ => .nil
  | .lev .. :: xs, i => namsFrom_ix xs (i + 1)
  | .nam w n c b e :: xs, i => by
    rw [namsFrom]
    split
    · refine List.pairwise_cons.mpr ⟨fun m hm => ?_, namsFrom_ix xs (i + 1)⟩
      obtain ⟨_, _, _, h, _⟩ := mem_namsFrom.mp hm
      exact h
    · exact namsFrom_ix xs (i + 1)
theorem nams_ix {f : Plain → Bool} (xs : List Plain) : (nams f xs).Pairwise fun a b => a.ix < b.ix := namsFrom_ix xs 0
theorem namsFrom_len {f : Plain → Bool} : ∀ (xs : List Plain) (i : Nat), (namsFrom f i xs).length ≤ xs.length
  | [], _ => Nat.le_refl _
  | .lev .. :: xs, i => Nat.le_succ_of_le (namsFrom_len xs (i + 1))
  | .nam w n c b e :: xs, i => by
    rw [namsFrom]
    have := namsFrom_len (f := f) xs (i + 1)
    split <;> simp only [List.length_cons] <;> omega
/-! ### sorted texts -/
theorem up_of_sortedS : ∀ {ys : List Str}, sortedS ys = true → Up ys
  | [], _ => .nil
  | x :: r, h => by
    have go : ∀ (r : List Str) (p : Str), risingS p r = true → (∀ y ∈ r, DatumOrd.lt y p = false) ∧ Up r := by
      intro r
      induction r with
      | nil => exact fun _ _ => ⟨by simp, .nil⟩
      | cons y r ih =>
        intro p h
        unfold risingS at h
        rw [Bool.and_eq_true, Bool.not_eq_true', ltCps_eq] at h
        obtain ⟨h1, h2⟩ := ih y h.2
        have h0 : ¬ y.cps.toList < p.cps.toList := of_decide_eq_false h.1
        refine ⟨fun z hz => ?_, List.pairwise_cons.mpr ⟨h1, h2⟩⟩
        rcases List.mem_cons.mp hz with rfl | hz
        · exact decide_eq_false h0
        · have h3 : ¬ z.cps.toList < y.cps.toList := of_decide_eq_false (h1 z hz)
          refine decide_eq_false fun lt => ?_
          have q1 : y.cps.toList ≤ z.cps.toList := List.not_lt.mp h3
          have q2 : p.cps.toList ≤ y.cps.toList := List.not_lt.mp h0
          exact List.not_lt.mpr (List.le_trans q2 q1) lt
    obtain ⟨h1, h2⟩ := go r x h
    exact List.pairwise_cons.mpr ⟨h1, h2⟩
theorem AscS.nodup {ys : List Str} (h : AscS ys) : ys.Nodup := by
  unfold AscS at h
  exact h.imp fun {a b} lt e => by
    subst e
    exact List.lt_irrefl _ lt
/-- as many at most as there are to be had -/
theorem nd_le {α : Type} [DecidableEq α] : ∀ {l m : List α}, l.Nodup → (∀ x ∈ l, x ∈ m) → l.length ≤ m.length
  | [], _, _, _ => Nat.zero_le _
  | x :: l, m, h, s => by
    obtain ⟨h1, h2⟩ := List.nodup_cons.mp h
    have hx := s x List.mem_cons_self
    have ih := nd_le (l := l) (m := m.erase x) h2 fun y hy => (List.mem_erase_of_ne fun e => h1 (by rw [← e]; exact hy)).mpr (s y (List.mem_cons_of_mem _ hy))
    rw [List.length_erase_of_mem hx] at ih
    have := List.length_pos_of_mem hx
    rw [List.length_cons]
    omega
theorem asc_sorted {ys : List Str} (h : sortedS ys = true) (nd : ys.Nodup) : AscS ys := asc_of_up (up_of_sortedS h) nd
/-- two strictly rising lists with the same members are the same -/
theorem asc_eq : ∀ {xs ys : List Str}, AscS xs → AscS ys → (∀ z, z ∈ xs ↔ z ∈ ys) → xs = ys
  | [], [], _, _, _ => rfl
  | [], y :: ys, _, _, h => by simpa using (h y).mpr
  | x :: xs, [], _, _, h => by simpa using (h x).mp
  | x :: xs, y :: ys, h1, h2, h => by
    obtain ⟨a1, a2⟩ := List.pairwise_cons.mp h1
    obtain ⟨b1, b2⟩ := List.pairwise_cons.mp h2
    have e : x = y := by
      rcases List.mem_cons.mp ((h x).mp List.mem_cons_self) with e | hx
      · exact e
      · rcases List.mem_cons.mp ((h y).mpr List.mem_cons_self) with e | hy
        · exact e.symm
        · exact absurd (a1 y hy) (List.lt_asymm (b1 x hx))
    subst e
    refine congrArg _ (asc_eq a2 b2 fun z => ?_)
    constructor
    · intro hz
      rcases List.mem_cons.mp ((h z).mp (List.mem_cons_of_mem _ hz)) with e | hz'
      · exact absurd (a1 z hz) (by rw [e]; exact List.lt_irrefl _)
      · exact hz'
    · intro hz
      rcases List.mem_cons.mp ((h z).mpr (List.mem_cons_of_mem _ hz)) with e | hz'
      · exact absurd (b1 z hz) (by rw [e]; exact List.lt_irrefl _)
      · exact hz'
/-! ### tables -/
/-- a row: its pair, the object of its values, the values -/
structure Row where
  key : Str × Str
  at_ : Addr
  vals : List Str
def rowKV (r : Row) : List Key × V := (pk r.key, V.ref r.at_)
/-- a list's object | a tuple's -/
def Sq (K : PySem.W.Frag) (tup : Bool) (H : Hp) (a : Addr) (vs : List V) : Prop := if tup = true then SqT K H a vs else H a = some (.lst vs)
/-- the dict at a: rows of persons, strictly rising, each of U -/
structure Tab (K : PySem.W.Frag) (tup : Bool) (U : List Str) (H : Hp) (a : Addr) (rs : List Row) : Prop where
  at_ : H a = some (.dT (rs.map rowKV))
  val : ∀ r ∈ rs, Sq K tup H r.at_ (r.vals.map V.str)
  nd : (rs.map (·.key)).Nodup
  asc : ∀ r ∈ rs, AscS r.vals
  sub : ∀ r ∈ rs, ∀ x ∈ r.vals, x ∈ U
/-- whom p's name n means, by the table -/
def RelT (rs : List Row) (p n x : Str) : Prop := ∃ r ∈ rs, r.key = (p, n) ∧ x ∈ r.vals
theorem Sq.same {K : PySem.W.Frag} {tup : Bool} {H H' : Hp} {a : Addr} {vs : List V} (s : Same H H') (h : Sq K tup H a vs) : Sq K tup H' a vs := by
  unfold Sq at *
  cases tup with
  | true => exact sq_t s h
  | false => exact s _ _ h
theorem Tab.same {K : PySem.W.Frag} {tup : Bool} {U : List Str} {H H' : Hp} {a : Addr} {rs : List Row} (s : Same H H') (T : Tab K tup U H a rs) : Tab K tup U H' a rs := ⟨s _ _ T.at_, fun r hr => (T.val r hr).same s, T.nd, T.asc, T.sub⟩
/-- a write to what is no row's object and not the table -/
theorem Tab.but {K : PySem.W.Frag} {tup : Bool} {U : List Str} {H H' : Hp} {a p : Addr} {o : HO} {rs : List Row} (w : But p H H') (hp : H p = some o) (ho : Imm o = false) (na : a ≠ p) (nr : tup = false → ∀ r ∈ rs, r.at_ ≠ p) (T : Tab K tup U H a rs) : Tab K tup U H' a rs :=
  ⟨w _ _ na T.at_, fun r hr => by
    have z := T.val r hr
    unfold Sq at *
    cases tup with
    | true => exact bt_t w hp ho z
    | false => exact w _ _ (nr rfl r hr) z, T.nd, T.asc, T.sub⟩
theorem Tab.len {K : PySem.W.Frag} {tup : Bool} {U : List Str} {H : Hp} {a : Addr} {rs : List Row} (T : Tab K tup U H a rs) {r : Row} (hr : r ∈ rs) : r.vals.length ≤ U.length :=
  nd_le (T.asc r hr).nodup (T.sub r hr)
theorem valV_rows : ∀ (rs : List Row) (k : Str × Str), valV (rs.map rowKV) (pk k) = (rs.find? fun r => decide (r.key = k)).map fun r => V.ref r.at_
  | [], k => rfl
  | r :: rs, k => by
    rw [List.map_cons, List.find?_cons]
    by_cases h : r.key = k
    · rw [decide_eq_true h]
      unfold rowKV
      rw [h]
      exact valV_pos rfl
    · rw [decide_eq_false h]
      have ne : pk r.key ≠ pk k := fun e => h (pk_inj e)
      refine (valV_neg ?_).trans (valV_rows rs k)
      exact ne
/-! ### plain statements, read -/
section
variable {K : PySem.W.Frag} {H : Hp} {v : V}
theorem dp_strs : ∀ {vs : List V} {zs : List Str}, HdAll K H vs zs → vs = zs.map V.str
  | [], [], _ => rfl
  | [], _ :: _, h => by cases h
  | _ :: _, [], h => by cases h
  | v :: vs, z :: zs, h => by
    cases h with
    | cons h1 h2 =>
      have h1 : Dp K H v (.str z) := h1
      cases h1
      rw [List.map_cons, dp_strs (zs := zs) h2]
theorem dp_ints : ∀ {vs : List V} {zs : List Int}, HdAll K H vs zs → vs = zs.map V.int
  | [], [], _ => rfl
  | [], _ :: _, h => by cases h
  | _ :: _, [], h => by cases h
  | v :: vs, z :: zs, h => by
    cases h with
    | cons h1 h2 =>
      have h1 : Dp K H v (.int z) := h1
      cases h1
      rw [List.map_cons, dp_ints (zs := zs) h2]
theorem dp_chain {c : List Str} (h : Dp K H v (dChain c)) : ∃ p, v = .ref p ∧ SqT K H p (c.map V.str) := by
  unfold dChain at h
  cases h with
  | @tup p vs _ h1 h2 =>
    have e : vs = c.map V.str := dp_strs (K := K) (H := H) h2
    rw [e] at h1
    exact ⟨p, rfl, h1⟩
theorem dp_pair {b e : Int} (h : Dp K H v (dPair b e)) : ∃ p, v = .ref p ∧ SqT K H p [.int b, .int e] := by
  unfold dPair at h
  cases h with
  | @tup p vs _ h1 h2 =>
    have e : vs = [V.int b, V.int e] := dp_ints (K := K) (H := H) (zs := [b, e]) h2
    rw [e] at h1
    exact ⟨p, rfl, h1⟩
theorem hd_nam {w n : Str} {c : List Str} {b e : Int} (h : Hd K H v (Plain.nam w n c b e)) : ∃ p pc ps, v = .ref p ∧ SqT K H p [.str "n", .str w, .str n, .ref pc, .ref ps] ∧ SqT K H pc (c.map V.str) ∧ SqT K H ps [.int b, .int e] := by
  have h : Dp K H v (.tuple [.str "n", .str w, .str n, dChain c, dPair b e]) := h
  cases h with
  | tup h1 h2 =>
    cases h2 with
    | cons a1 h2 =>
      cases h2 with
      | cons a2 h2 =>
        cases h2 with
        | cons a3 h2 =>
          cases h2 with
          | cons a4 h2 =>
            cases h2 with
            | cons a5 h2 =>
              cases h2
              cases a1
              cases a2
              cases a3
              obtain ⟨pc, rfl, q4⟩ := dp_chain a4
              obtain ⟨ps, rfl, q5⟩ := dp_pair a5
              exact ⟨_, pc, ps, rfl, h1, q4, q5⟩
theorem hd_lev {w : Str} {g : Subj} {t1 t2 b e : Int} {o : Option Int} (h : Hd K H v (Plain.lev w g t1 t2 b e o)) : ∃ p vg pt ps vo, v = .ref p ∧ SqT K H p [.str "l", .str w, vg, .ref pt, .ref ps, vo] ∧ Hd K H vg g ∧ SqT K H pt [.int t1, .int t2] ∧ SqT K H ps [.int b, .int e] ∧ Dp K H vo (dOpt o) := by
  have h : Dp K H v (.tuple [.str "l", .str w, dSubj g, dPair t1 t2, dPair b e, dOpt o]) := h
  cases h with
  | tup h1 h2 =>
    cases h2 with
    | cons a1 h2 =>
      cases h2 with
      | cons a2 h2 =>
        cases h2 with
        | cons a3 h2 =>
          cases h2 with
          | cons a4 h2 =>
            cases h2 with
            | cons a5 h2 =>
              cases h2 with
              | cons a6 h2 =>
                cases h2
                cases a1
                cases a2
                obtain ⟨pt, rfl, q4⟩ := dp_pair a4
                obtain ⟨ps, rfl, q5⟩ := dp_pair a5
                exact ⟨_, _, pt, ps, _, rfl, h1, a3, q4, q5, a6⟩
end
/-! ### a chain without its first word -/
theorem six_one (n : Nat) (h : 1 ≤ n) (d : Nat) : HT.sIx n d (some 1) = 1 := by
  rw [show (some (1 : Int)) = some ((1 : Nat) : Int) from rfl, HT.sIx_nat]
  omega
theorem cut_tail (x : V) (xs : List V) : cutV (x :: xs) (some 1) none = xs := by
  unfold cutV
  rw [six_one _ (by simp), HT.sIx_none]
  simp
theorem tail_new {x : V} {xs : List V} : ¬ (HT.sIx (x :: xs).length 0 (some 1) = 0 ∧ HT.sIx (x :: xs).length (x :: xs).length none = (x :: xs).length) := by
  rw [six_one _ (by simp)]
  intro h
  exact absurd h.1 (by decide)
/-- what .get(pair, the empty one) gives -/
theorem Tab.get {K : PySem.W.Frag} {tup : Bool} {U : List Str} {H : Hp} {a e : Addr} {rs : List Row} (T : Tab K tup U H a rs) (he : Sq K tup H e []) (k : Str × Str) : ∃ va vals, (valV (rs.map rowKV) (pk k)).getD (.ref e) = .ref va ∧ Sq K tup H va (vals.map V.str) ∧ (∀ x, x ∈ vals ↔ RelT rs k.1 k.2 x) ∧ AscS vals ∧ ∀ x ∈ vals, x ∈ U := by
  rw [valV_rows]
  cases hf : rs.find? fun r => decide (r.key = k) with
  | none =>
    refine ⟨e, [], rfl, he, fun x => ?_, .nil, fun x hx => by simp at hx⟩
    constructor
    · intro h
      simp at h
    · rintro ⟨r, hr, hk, _⟩
      have := List.find?_eq_none.mp hf r hr
      rw [decide_eq_true_eq] at this
      exact absurd hk this
  | some r =>
    have hr := List.mem_of_find?_eq_some hf
    have hk : r.key = k := by
      have z := List.find?_some hf
      simpa using z
    refine ⟨r.at_, r.vals, rfl, T.val r hr, fun x => ⟨fun h => ⟨r, hr, hk, h⟩, fun ⟨r', hr', hk', hx⟩ => ?_⟩, T.asc r hr, T.sub r hr⟩
    have e2 : r' = r := by
      have nd := T.nd
      obtain ⟨i, hi⟩ := List.mem_iff_getElem?.mp hr
      obtain ⟨j, hj⟩ := List.mem_iff_getElem?.mp hr'
      have q1 : (rs.map (·.key))[i]? = some k := by rw [List.getElem?_map, hi]; exact congrArg some hk
      have q2 : (rs.map (·.key))[j]? = some k := by rw [List.getElem?_map, hj]; exact congrArg some hk'
      have ij := nd_inj nd q1 q2
      rw [← ij, hi] at hj
      exact (Option.some.inj hj).symm
    rw [← e2]
    exact hx
end NC
-- NcTab
set_option Elab.async false
set_option linter.all false
set_option maxRecDepth 100000
set_option maxHeartbeats 4000000
/-! A table's rows put; how many facts a table tells. -/
namespace NC
open PySem PySem.Spec PyProof.Rows L2 PySem.W
def hasR (rs : List Row) (k : Str × Str) : Bool := rs.any fun q => decide (q.key = k)
/-- the row of a key, replaced in its place or put at the end -/
def putR (rs : List Row) (r : Row) : List Row := if hasR rs r.key = true then rs.map (fun q => if q.key = r.key then r else q) else rs ++ [r]
theorem hasR_iff {rs : List Row} {k : Str × Str} : hasR rs k = true ↔ ∃ q ∈ rs, q.key = k := by
  unfold hasR
  rw [List.any_eq_true]
  exact ⟨fun ⟨q, h1, h2⟩ => ⟨q, h1, of_decide_eq_true h2⟩, fun ⟨q, h1, h2⟩ => ⟨q, h1, decide_eq_true h2⟩⟩
theorem putK_rows (rs : List Row) (r : Row) : putK (rs.map rowKV) (pk r.key) (V.ref r.at_) = (putR rs r).map rowKV := by
  have ha : ((rs.map rowKV).any fun kv => decide (kv.1 = pk r.key)) = hasR rs r.key := by
    unfold hasR
    rw [List.any_map]
    congr 1
    funext q
    show decide (pk q.key = pk r.key) = decide (q.key = r.key)
    exact decide_eq_decide.mpr ⟨pk_inj, fun e => by rw [e]⟩
  unfold putK putR
  rw [ha]
  split
  · rw [List.map_map, List.map_map]
    refine List.map_congr_left fun q _ => ?_
    show (if pk q.key = pk r.key then (pk q.key, V.ref r.at_) else rowKV q) = rowKV (if q.key = r.key then r else q)
    by_cases h : q.key = r.key
    · rw [if_pos (by rw [h]), if_pos h, h]
      rfl
    · rw [if_neg (fun e => h (pk_inj e)), if_neg h]
  · rw [List.map_append]
    rfl
theorem mem_putR {rs : List Row} {r q : Row} (h : q ∈ putR rs r) : q = r ∨ (q ∈ rs ∧ q.key ≠ r.key) := by
  unfold putR at h
  split at h
  · obtain ⟨x, hx, e⟩ := List.mem_map.mp h
    by_cases hk : x.key = r.key
    · rw [if_pos hk] at e
      exact .inl e.symm
    · rw [if_neg hk] at e
      exact .inr ⟨e ▸ hx, e ▸ hk⟩
  · rename_i hn
    rcases List.mem_append.mp h with h | h
    · exact .inr ⟨h, fun e => hn (hasR_iff.mpr ⟨q, h, e⟩)⟩
    · exact .inl (List.mem_singleton.mp h)
theorem putR_has {rs : List Row} {r : Row} : r ∈ putR rs r := by
  unfold putR
  split
  · rename_i h
    obtain ⟨q, hq, hk⟩ := hasR_iff.mp h
    exact List.mem_map.mpr ⟨q, hq, if_pos hk⟩
  · exact List.mem_append_right _ List.mem_cons_self
theorem putR_old {rs : List Row} {r q : Row} (h : q ∈ rs) (hk : q.key ≠ r.key) : q ∈ putR rs r := by
  unfold putR
  split
  · exact List.mem_map.mpr ⟨q, h, if_neg hk⟩
  · exact List.mem_append_left _ h
theorem putR_keys (rs : List Row) (r : Row) : (putR rs r).map (·.key) = if hasR rs r.key = true then rs.map (·.key) else rs.map (·.key) ++ [r.key] := by
  unfold putR
  split
  · rw [List.map_map]
    refine List.map_congr_left fun q _ => ?_
    show (if q.key = r.key then r else q).key = q.key
    by_cases h : q.key = r.key
    · rw [if_pos h, h]
    · rw [if_neg h]
  · rw [List.map_append]
    rfl
theorem putR_nd {rs : List Row} {r : Row} (h : (rs.map (·.key)).Nodup) : ((putR rs r).map (·.key)).Nodup := by
  rw [putR_keys]
  split
  · exact h
  · rename_i hn
    refine List.nodup_append.mpr ⟨h, by simp, fun x hx y hy e => ?_⟩
    obtain ⟨q, hq, hk⟩ := List.mem_map.mp hx
    rw [List.mem_singleton.mp hy] at e
    exact hn (hasR_iff.mpr ⟨q, hq, hk.trans e⟩)
theorem relT_put {rs : List Row} {r : Row} {p n x : Str} : RelT (putR rs r) p n x ↔ (r.key = (p, n) ∧ x ∈ r.vals) ∨ (r.key ≠ (p, n) ∧ RelT rs p n x) := by
  constructor
  · rintro ⟨q, hq, hk, hx⟩
    rcases mem_putR hq with rfl | ⟨h1, h2⟩
    · exact .inl ⟨hk, hx⟩
    · exact .inr ⟨fun e => h2 (hk.trans e.symm), q, h1, hk, hx⟩
  · rintro (⟨hk, hx⟩ | ⟨hk, q, hq, hk2, hx⟩)
    · exact ⟨r, putR_has, hk, hx⟩
    · exact ⟨q, putR_old hq (fun e => hk (e ▸ hk2)), hk2, hx⟩
/-- how many facts -/
def total (rs : List Row) : Nat := (rs.map fun r => r.vals.length).sum
theorem total_append (a b : List Row) : total (a ++ b) = total a + total b := by
  unfold total
  rw [List.map_append, List.sum_append]
/-- more facts, if the row's values are more than they were -/
theorem total_put {rs : List Row} {r : Row} (nd : (rs.map (·.key)).Nodup) (h : ∀ q ∈ rs, q.key = r.key → q.vals.length < r.vals.length) (h0 : 0 < r.vals.length) : total rs < total (putR rs r) := by
  unfold putR
  split
  · rename_i hh
    clear h0
    induction rs with
    | nil => simp [hasR] at hh
    | cons q rs ih =>
      rw [List.map_cons, List.nodup_cons] at nd
      have step : total ((q :: rs).map fun q => if q.key = r.key then r else q) = (if q.key = r.key then r else q).vals.length + total (rs.map fun q => if q.key = r.key then r else q) := by
        simp [total]
      have step2 : total (q :: rs) = q.vals.length + total rs := by simp [total]
      rw [step, step2]
      by_cases hk : q.key = r.key
      · have same : rs.map (fun q => if q.key = r.key then r else q) = rs := by
          conv => rhs; rw [← List.map_id rs]
          refine List.map_congr_left fun z hz => ?_
          rw [if_neg fun e => nd.1 (List.mem_map.mpr ⟨z, hz, e.trans hk.symm⟩)]
          rfl
        rw [same, if_pos hk]
        have := h q List.mem_cons_self hk
        omega
      · rw [if_neg hk]
        have hr : hasR rs r.key = true := by
          obtain ⟨z, hz, e⟩ := hasR_iff.mp hh
          rcases List.mem_cons.mp hz with rfl | hz
          · exact absurd e hk
          · exact hasR_iff.mpr ⟨z, hz, e⟩
        have := ih nd.2 (fun z hz => h z (List.mem_cons_of_mem _ hz)) hr
        omega
  · rw [total_append]
    have : total [r] = r.vals.length := by simp [total]
    omega
theorem total_le {rs : List Row} {m : Nat} (h : ∀ r ∈ rs, r.vals.length ≤ m) : total rs ≤ rs.length * m := by
  induction rs with
  | nil => simp [total]
  | cons r rs ih =>
    have h1 := h r List.mem_cons_self
    have h2 := ih fun q hq => h q (List.mem_cons_of_mem _ hq)
    have e : total (r :: rs) = r.vals.length + total rs := by simp [total]
    rw [e, List.length_cons, Nat.succ_mul]
    omega
/-- the table behind a put -/
theorem Tab.put {K : PySem.W.Frag} {tup : Bool} {U : List Str} {H H' : Hp} {a : Addr} {rs : List Row} {r : Row} (T : Tab K tup U H a rs) (w : But a H H') (h : H' a = some (.dT ((putR rs r).map rowKV))) (hv : Sq K tup H' r.at_ (r.vals.map V.str)) (asc : AscS r.vals) (sub : ∀ x ∈ r.vals, x ∈ U) : Tab K tup U H' a (putR rs r) := by
  refine ⟨h, fun q hq => ?_, putR_nd T.nd, fun q hq => ?_, fun q hq => ?_⟩
  · rcases mem_putR hq with rfl | ⟨h1, _⟩
    · exact hv
    · have z := T.val q h1
      unfold Sq at *
      cases tup with
      | true => exact bt_t w T.at_ rfl z
      | false => exact w _ _ (ne_of z T.at_ (by intro e; cases e)) z
  · rcases mem_putR hq with rfl | ⟨h1, _⟩
    · exact asc
    · exact T.asc q h1
  · rcases mem_putR hq with rfl | ⟨h1, _⟩
    · exact sub
    · exact T.sub q h1
theorem tab_nil {K : PySem.W.Frag} {tup : Bool} {U : List Str} {H : Hp} {a : Addr} (h : H a = some (.dT [])) : Tab K tup U H a [] := ⟨h, by simp, List.nodup_nil, by simp, by simp⟩
theorem relT_mono {rs : List Row} {r : Row} (h : ∀ q ∈ rs, q.key = r.key → ∀ x ∈ q.vals, x ∈ r.vals) {p n x : Str} (z : RelT rs p n x) : RelT (putR rs r) p n x := by
  obtain ⟨q, hq, hk, hx⟩ := z
  refine relT_put.mpr ?_
  by_cases e : r.key = (p, n)
  · exact .inl ⟨e, h q hq (hk.trans e.symm) x hx⟩
  · exact .inr ⟨e, q, hq, hk, hx⟩
end NC
-- NcKind
set_option Elab.async false
set_option linter.all false
set_option maxRecDepth 100000
set_option maxHeartbeats 4000000
/-! isinstance of plain values; a tuple's type. -/
namespace NC
open PySem PySem.Spec PyProof.Rows L2 PySem.W
section
variable {K : PySem.W.Frag} {H : Hp}
theorem ty_tup {a : Addr} {xs : List V} (h : SqT K H a xs) : TyX K H (.ref a) (.type "tuple") := by
  rcases h with (h | ⟨o, h⟩) | h
  · exact .base (.tup h)
  · exact .fTuple h
  · obtain ⟨o, _, _, h1, h2, _⟩ := h
    exact .kTuple h1 h2
theorem ty_int (i : Int) : TyX K H (.int i) (.type "int") := .base (.int i)
theorem ty_str (z : Str) : TyX K H (.str z) (.type "str") := .base (.str z)
theorem kit_ii : kitOne K (.type "int") (.type "int") = some true := kit_ty (by decide +kernel)
theorem kit_ib : kitOne K (.type "int") (.type "bool") = some false := kit_ty (by decide +kernel)
theorem kit_ss : kitOne K (.type "str") (.type "str") = some true := kit_ty (by decide +kernel)
theorem kit_tt : kitOne K (.type "tuple") (.type "tuple") = some true := kit_ty (by decide +kernel)
theorem kit_ts : kitOne K (.type "tuple") (.type "str") = some false := kit_ty (by decide +kernel)
theorem kit_it : kitOne K (.type "int") (.type "tuple") = some false := kit_ty (by decide +kernel)
theorem kit_is : kitOne K (.type "int") (.type "str") = some false := kit_ty (by decide +kernel)
end
end NC
-- NcBlk
set_option Elab.async false
set_option linter.all false
set_option maxRecDepth 100000
set_option maxHeartbeats 4000000
/-! Rules for what stands in a comprehension's block, the written part named. -/
namespace NC
open PySem PySem.Spec PyProof.Rows L2 PySem.W
section
variable {X : Cx} {K : PySem.W.Frag}
def rListOf (K : PySem.W.Frag) : List V → Hp → VK → Prop := fun xs H Q => ∃ p ys, xs = [.ref p] ∧ (SqL K H p ys ∨ SqT K H p ys) ∧ ∀ l, H l = none → Q (.ref l) (upd H l (.lst ys))
theorem call_list_ofK (hK : X.K = K := by rfl) : CallR X (.type "list") (rListOf K) := by
  subst hK
  exact call_list_of
theorem call_isiK2 (hK : X.K = K := by rfl) : CallR X (.builtin "isinstance") (rIsi K) := by
  subst hK
  exact call_isi
def rLenK (K : PySem.W.Frag) : List V → Hp → VK → Prop := fun xs H Q => ∃ x n, xs = [x] ∧ LenV K x H n ∧ Q (.int n) H
theorem call_lenK (hK : X.K = K := by rfl) : CallR X (.builtin "len") (rLenK K) := by
  subst hK
  exact call_len
end
end NC
-- NcPaper
set_option Elab.async false
set_option linter.all false
set_option maxRecDepth 100000
set_option maxHeartbeats 4000000
/-! Papers as data. -/
namespace NC
open PySem PySem.Spec PyProof.Rows L2 PySem.W
def dPl (ks : List Nat) : PyData := .tuple (ks.map fun (k : Nat) => PyData.int (k : Int))
def dLine (l : Line Str) : PyData := .tuple [.str l.p, .str l.n, .str l.q, .int (l.ix : Int), dPl l.at_]
def dRow (r : (Str × Str) × List Str) : PyData := .tuple [.str r.1.1, .str r.1.2, .tuple (r.2.map PyData.str)]
inductive Paper where
  | yes (ls : List (Line Str)) (ks : List Nat)
  | no (rows : List ((Str × Str) × List Str))
def dPaper : Paper → PyData
  | .yes ls ks => .tuple [.str "yes", .tuple (ls.map dLine), dPl ks]
  | .no rows => .tuple [.str "no", .tuple (rows.map dRow)]
section
variable {K : PySem.W.Frag} {H : Hp} {v : V}
theorem dpl_ints : ∀ {vs : List V} {ks : List Nat}, DpAll K H vs (ks.map fun (k : Nat) => PyData.int (k : Int)) → vs = ks.map fun (k : Nat) => V.int (k : Int)
  | [], [], _ => rfl
  | [], _ :: _, h => by cases h
  | _ :: _, [], h => by cases h
  | v :: vs, k :: ks, h => by
    cases h with
    | cons h1 h2 =>
      cases h1
      rw [List.map_cons, dpl_ints (ks := ks) h2]
theorem dp_pl {ks : List Nat} (h : Dp K H v (dPl ks)) : ∃ p, v = .ref p ∧ SqT K H p (ks.map fun (k : Nat) => V.int (k : Int)) := by
  unfold dPl at h
  cases h with
  | @tup p vs _ h1 h2 =>
    rw [dpl_ints h2] at h1
    exact ⟨p, rfl, h1⟩
theorem dpl_all : ∀ ks : List Nat, DpAll K H (ks.map fun (k : Nat) => V.int (k : Int)) (ks.map fun (k : Nat) => PyData.int (k : Int))
  | [] => .nil
  | k :: ks => .cons (.int _) (dpl_all ks)
theorem dp_line {l : Line Str} (h : Dp K H v (dLine l)) : ∃ p pa, v = .ref p ∧ SqT K H p [.str l.p, .str l.n, .str l.q, .int (l.ix : Int), .ref pa] ∧ SqT K H pa (l.at_.map fun (k : Nat) => V.int (k : Int)) := by
  unfold dLine at h
  cases h with
  | tup h1 h2 =>
    cases h2 with
    | cons a1 h2 =>
      cases h2 with
      | cons a2 h2 =>
        cases h2 with
        | cons a3 h2 =>
          cases h2 with
          | cons a4 h2 =>
            cases h2 with
            | cons a5 h2 =>
              cases h2
              cases a1
              cases a2
              cases a3
              cases a4
              obtain ⟨pa, rfl, q⟩ := dp_pl a5
              exact ⟨_, pa, rfl, h1, q⟩
theorem dp_row {r : (Str × Str) × List Str} (h : Dp K H v (dRow r)) : ∃ p pa, v = .ref p ∧ SqT K H p [.str r.1.1, .str r.1.2, .ref pa] ∧ SqT K H pa (r.2.map V.str) := by
  unfold dRow at h
  cases h with
  | tup h1 h2 =>
    cases h2 with
    | cons a1 h2 =>
      cases h2 with
      | cons a2 h2 =>
        cases h2 with
        | cons a3 h2 =>
          cases h2
          cases a1
          cases a2
          obtain ⟨pa, rfl, q⟩ := dp_chain (c := r.2) a3
          exact ⟨_, pa, rfl, h1, q⟩
/-- the values of a list of data, one by one -/
theorem dpAll_at {β : Type} {enc : β → PyData} : ∀ {vs : List V} {xs : List β} {i : Nat} {x : β}, DpAll K H vs (xs.map enc) → xs[i]? = some x → ∃ v, vs[i]? = some v ∧ Dp K H v (enc x)
  | [], [], i, x, _, e => by simp at e
  | [], _ :: _, _, _, h, _ => by cases h
  | _ :: _, [], _, _, h, _ => by cases h
  | v :: vs, y :: xs, i, x, h, e => by
    cases h with
    | cons h1 h2 =>
      cases i with
      | zero =>
        simp at e
        subst e
        exact ⟨v, rfl, h1⟩
      | succ i =>
        obtain ⟨u, e1, e2⟩ := dpAll_at (vs := vs) (xs := xs) (i := i) h2 (by simpa using e)
        exact ⟨u, by simpa using e1, e2⟩
theorem dpAll_len {β : Type} {enc : β → PyData} : ∀ {vs : List V} {xs : List β}, DpAll K H vs (xs.map enc) → vs.length = xs.length
  | [], [], _ => rfl
  | [], _ :: _, h => by cases h
  | _ :: _, [], h => by cases h
  | _ :: vs, _ :: xs, h => by
    cases h with
    | cons _ h2 => rw [List.length_cons, List.length_cons, dpAll_len (vs := vs) (xs := xs) h2]
theorem dpAll_take {β : Type} {enc : β → PyData} : ∀ {vs : List V} {xs : List β} (n : Nat), DpAll K H vs (xs.map enc) → DpAll K H (vs.take n) ((xs.take n).map enc)
  | _, _, 0, _ => by rw [List.take_zero, List.take_zero]; exact .nil
  | [], [], n + 1, _ => .nil
  | [], _ :: _, _, h => by cases h
  | _ :: _, [], _, h => by cases h
  | _ :: vs, _ :: xs, n + 1, h => by
    cases h with
    | cons h1 h2 => exact .cons h1 (dpAll_take (vs := vs) (xs := xs) n h2)
theorem dpAll_same {H' : Hp} (s : Same H H') {ds : List PyData} {vs : List V} (h : DpAll K H vs ds) : DpAll K H' vs ds := dp_sameAll s ds vs h
end
end NC
-- NcChain3
set_option Elab.async false
set_option linter.all false
set_option maxRecDepth 100000
set_option maxHeartbeats 4000000
/-! a <= b <= c <= d as a test; an expression that is never looked at; two readings of one expression. -/
namespace NC
open PySem PySem.Spec PyProof.Rows L2 PySem.W
section
variable {X : Cx} {a b c d e : Expr} {ta tb tc td t u : TE} {pos : Pos}
def tChain3 (r1 r2 r3 : R2) (ta tb tc td : TE) : TE := fun σ H Q => ta σ H fun x H1 => tb σ H1 fun y H2 => r1 x y H2 fun z H3 => ∃ k, z = .bl k ∧
  (if k = true then tc σ H3 fun w' H4 => r2 y w' H4 fun z2 H5 => ∃ k2, z2 = .bl k2 ∧ (if k2 = true then td σ H5 fun u' H6 => r3 w' u' H6 Q else Q (.bl false) H5) else Q (.bl false) H3)
theorem pt_chain3 {o1 o2 o3 : CmpOp} {r1 r2 r3 : R2} (h1 : OpR X (compareOp o1) r1) (h2 : OpR X (compareOp o2) r2) (h3 : OpR X (compareOp o3) r3) (ha : PE X a ta) (hb : PE X b tb) (hc : PE X c tc) (hd : PE X d td)
    (hm : lastMarks [o1, o2, o3] [b, c, d] = false := by with_unfolding_all rfl) : PT X (.Compare a [o1, o2, o3] [b, c, d] pos) (tTest (tChain3 r1 r2 r3 ta tb tc td)) := by
  refine ⟨fun pins s σ H Q I h => ?_⟩
  refine isTrue_chain (thn (ha.run pins s σ H _ I h) fun v s1 ⟨x, H1, I1, q1, p1⟩ => test_link (thn (hb.run pins s1 σ H1 _ I1 p1) fun u s2 ⟨y, H2, I2, q2, p2⟩ =>
    thn (h1 pins s2 σ H2 x y v u _ I2 q1 q2 p2) fun d s3 ⟨z, H3, I3, q3, k, e, p3⟩ => ?_)) hm
  subst e
  cases q3
  refine wpAny_truthy_bool ?_
  cases k with
  | false =>
    obtain ⟨k', e', q'⟩ := p3
    cases e'
    exact ite_ff ⟨H3, I3, q'⟩
  | true =>
    refine ite_tt (test_link (thn (hc.run pins s3 σ H3 _ I3 p3) fun w' s4 ⟨z', H4, I4, q4, p4⟩ => thn (h2 pins s4 σ H4 y z' u w' _ I4 q2 q4 p4) fun d' s5 ⟨z2, H5, I5, q5, k2, e2, p5⟩ => ?_))
    subst e2
    cases q5
    refine wpAny_truthy_bool ?_
    cases k2 with
    | false =>
      obtain ⟨k', e', q'⟩ := p5
      cases e'
      exact ite_ff ⟨H5, I5, q'⟩
    | true =>
      refine ite_tt (test_last (thn (hd.run pins s5 σ H5 _ I5 p5) fun w2 s6 ⟨z3, H6, I6, q6, p6⟩ => thn (h3 pins s6 σ H6 z' z3 w' w2 _ I6 q4 q6 p6) fun d2 s7 ⟨z4, H7, I7, q7, k3, e3, p7⟩ => ?_))
      subst e3
      cases q7
      exact wpAny_truthy_bool ⟨H7, I7, p7⟩
theorem pe_never : PE X e (fun _ _ _ => False) := ⟨fun _ _ _ _ _ _ h => h.elim⟩
def tEither (t u : TE) : TE := fun σ H Q => t σ H Q ∨ u σ H Q
theorem pe_either (h1 : PE X e t) (h2 : PE X e u) : PE X e (tEither t u) := ⟨fun pins s σ H Q I h => h.elim (h1.run pins s σ H Q I) (h2.run pins s σ H Q I)⟩
end
end NC
-- NcLaw1
set_option Elab.async false
set_option linter.all false
set_option maxRecDepth 100000
set_option maxHeartbeats 4000000
namespace NC
local macro_rules | `(tactic| walk_at "go") => `(tactic| (repeat (first
  | (refine ⟨_, rfl, ?_⟩)
  | (refine ⟨_, _, rfl, rfl, ?_⟩)
  | (refine ⟨_, _, rfl, ?_⟩)
  | (refine ⟨_, _, _, rfl, ?_⟩)
  | (refine Or.inl ⟨_, rfl, ?_⟩)
  | (refine iteT ?_)
  | (refine iteF ?_))))
open PySem PySem.Spec PyProof.Rows L2 PySem.W
def spHeld (K : PySem.W.Frag) : Sp := fun vs H Q _ => ∃ (a r : Addr) (all : Bool) (us : List V) (xs : List Plain) (b e : Int), vs = [.ref a, .ref r, .bl all] ∧ H a = some (.lst us) ∧ HdAll K H us xs ∧ xs.length ≤ 24 ∧ SqT K H r [.int b, .int e] ∧
  ∀ q H', Same H H' → H q = none → H' q = some (.lst ((nams (hold all b e) xs).map fun n => V.int n.ix)) → Q (.ref q) H'
abbrev NN_law_held : List Str := ["_law_plains", "_law_span_here", "_law_is_all", "_law_found", "_law_k", "_law_begin", "_law_end"]
theorem sc_law_held : FnScope NN_law_held ["_law_plains", "_law_span_here", "_law_is_all"] (defScope s_law_held) := ⟨rfl, rfl, rfl, by decide +kernel, rfl, by decide +kernel, by decide +kernel⟩
section
variable {P : Program} {w : World} {K : PySem.W.Frag} {mg : Str → Option Value} {base : Heap}
-- 0 _law_plains; 1 _law_span_here; 2 _law_is_all; 3 _law_found; 4 _law_k; 5 _law_begin; 6 _law_end
theorem cal_held (T : Txt K mg) : Cal P w K mg base 1 "_law_held" (spHeld K) := by
  refine cal_of T.f_law_held T.g_law_held sc_law_held (fun vs H Q E h => ?_) (fun _ _ _ _ _ _ us hl => match us, hl with | [_, _, _], _ => rfl) (fun cdv A outer s H vs Q E hr h => ?_)
  · obtain ⟨a, r, all, us, xs, b, e, rfl, _⟩ := h
    rfl
  · obtain ⟨a, r, all, us, xs, b, e, rfl, ha, hx, hl, hr, k⟩ := h
    have nd := sc_law_held.nd
    have lu := hdAll_len hx
    refine ⟨_, 
      (pss_cons (ps_set (i := 3) nd rfl (Or.inl rfl) (pe_lst pa_nil))
      (pss_cons (ps_for PassesOwn.never rfl (pi_range1 (by rfl) T.n_range (pa_cons (bB call_len T.n_len (pa_cons (pv 0) pa_nil)) pa_nil)) (pg_name (i := 4) nd rfl (Or.inl rfl)) 
        (pss_one (ps_if (pt_cmpR op_eq (pe_ix ix_tup (pe_ix ix_list (pv 0) (pv 4) (fun _ _ => rfl)) pe_int (fun _ _ => rfl)) pe_str (nomark _)) 
          (pss_cons (ps_asg (pe_ix ix_tup (pe_ix ix_list (pv 0) (pv 4) (fun _ _ => rfl)) pe_int (fun _ _ => rfl)) (pg_tup rfl (pgs_cons (pg_name (i := 5) nd rfl (Or.inl rfl)) (pgs_cons (pg_name (i := 6) nd rfl (Or.inl rfl)) pgs_nil))))
          (pss_one (ps_if (PW.pt (pw_or (PW.pt (pw_and (pt_cmpR op_le (pv 5) (pe_ix ix_tup (pv 1) pe_int (fun _ _ => rfl)) (nomark _)) (pw_and1 (pt_cmpR op_le (pe_ix ix_tup (pv 1) pe_int (fun _ _ => rfl)) (pv 6) (nomark _))))) (pw_or1 (PW.pt (pw_and (pt_not (pt_val (pv 2))) (pw_and (pt_cmpR op_le (pv 5) (pe_ix ix_tup (pv 1) pe_int (fun _ _ => rfl)) (nomark _)) (pw_and1 (pt_cmpR op_le (pe_ix ix_tup (pv 1) pe_int (fun _ _ => rfl)) (pv 6) (nomark _))))))))) 
            (pss_one (ps_expr (pe_bm PySem.F.plainAttrs_list PySem.F.slot_list_append PySem.F.type_list_append mt_append (pv 3) (pa_cons (pv 4) pa_nil)))) pss_nil))) pss_nil)))
      (pss_one (ps_ret (pv 3))))), ?_⟩
    walk_at "go"
    refine ⟨Nat.zero_le _, fun q nq => kNew nq fun H1 s1 hq => ?_⟩
    have ha1 := s1 _ _ ha
    have nqa : a ≠ q := ne_of_none ha nq
    walk_at "go"
    refine ⟨_, us.length, rfl, .inl ⟨_, sq_of ha1, rfl⟩, ?_⟩
    walk_at "go"
    refine ⟨by omega, by omega, for_range (lo := 0) (n := us.length) (fun i σ H' => ∃ o1 o2 o3 : Option V, σ = [some (.ref a), some (.ref r), some (.bl all), some (.ref q), o1, o2, o3] ∧ But q H1 H' ∧ H' q = some (.lst ((nams (hold all b e) (xs.take i)).map fun n => V.int n.ix)))
      ⟨none, none, none, rfl, But.refl _ _, hq⟩ ?_ ?_⟩
    · rintro i σ H2 hi ⟨o1, o2, o3, rfl, w2, hq2⟩
      walk_at "go"
      have ha2 := w2 _ _ nqa ha1
      obtain ⟨x, hxi⟩ : ∃ x, xs[i]? = some x := ⟨_, List.getElem?_eq_getElem (by omega)⟩
      obtain ⟨v, hv, hd⟩ := hdAll_has ((hx.same s1).butF w2 hq) hxi
      refine ⟨_, _, _, v, rfl, rfl, sq_of ha2, at_nat (by omega) (by simpa using hv), ?_⟩
      have tk := nams_take (hold all b e) xs i x hxi
      cases x with
      | nam who word c b0 e0 =>
        obtain ⟨p, pc, ps, rfl, q1, q2, q3⟩ := hd_nam hd
        walk_at "go"
        refine ⟨p, _, _, _, rfl, rfl, q1, rfl, ?_⟩
        walk_at "go"
        refine ⟨rfl, ?_⟩
        walk_at "go"
        refine ⟨_, _, _, _, rfl, rfl, sq_of ha2, at_nat (by omega) (by simpa using hv), ?_⟩
        walk_at "go"
        refine ⟨p, _, _, _, rfl, rfl, q1, rfl, ?_⟩
        walk_at "go"
        refine ⟨ps, _, rfl, q3, rfl, _, _, rfl, _, _, rfl, rfl, ?_⟩
        walk_at "go"
        have hr2 := bt_t w2 hq rfl (sq_t s1 hr)
        have ln : (nams (hold all b e) (xs.take i)).length ≤ 24 := Nat.le_trans (namsFrom_len _ _) (by rw [List.length_take]; omega)
        refine ⟨r, _, _, _, rfl, rfl, hr2, rfl, ?_⟩
        walk_at "go"
        cases all with
        | true =>
          refine iteD (fun c1 => ?_) (fun c1 => ?_)
          · walk_at "go"
            refine ⟨r, _, _, _, rfl, rfl, hr2, rfl, ?_⟩
            walk_at "go"
            refine iteD (fun c2 => ?_) (fun c2 => ?_)
            · have hY : hold true b e (.nam who word c b0 e0) = true := by
                simp [hold]
                omega
              rw [namsFrom, if_pos hY] at tk
              walk_at "go"
              refine ⟨.inl ⟨rfl, _, sq_of hq2⟩, ?_⟩
              walk_at "go"
              refine ⟨q, _, _, rfl, rfl, hq2, sz_lt (by rw [List.length_map]; omega), kPut fun H3 w3 h3 => ⟨_, _, _, rfl, w2.trans w3, ?_⟩⟩
              rw [tk, List.map_append, h3]
              simp [namsFrom]
            · have hY : ¬ hold true b e (.nam who word c b0 e0) = true := by
                simp [hold]
                omega
              rw [namsFrom, if_neg hY, namsFrom, List.append_nil] at tk
              walk_at "go"
              exact ⟨w2, by rw [tk]; exact hq2⟩
          · have hY : ¬ hold true b e (.nam who word c b0 e0) = true := by
              simp [hold]
              omega
            rw [namsFrom, if_neg hY, namsFrom, List.append_nil] at tk
            walk_at "go"
            exact ⟨w2, by rw [tk]; exact hq2⟩
        | false =>
          refine iteD (fun c1 => ?_) (fun c1 => ?_)
          · walk_at "go"
            refine ⟨r, _, _, _, rfl, rfl, hr2, rfl, ?_⟩
            walk_at "go"
            refine iteD (fun c2 => ?_) (fun c2 => ?_)
            · have hY : hold false b e (.nam who word c b0 e0) = true := by
                simp [hold]
                omega
              rw [namsFrom, if_pos hY] at tk
              walk_at "go"
              refine ⟨.inl ⟨rfl, _, sq_of hq2⟩, ?_⟩
              walk_at "go"
              refine ⟨q, _, _, rfl, rfl, hq2, sz_lt (by rw [List.length_map]; omega), kPut fun H3 w3 h3 => ⟨_, _, _, rfl, w2.trans w3, ?_⟩⟩
              rw [tk, List.map_append, h3]
              simp [namsFrom]
            · walk_at "go"
              refine ⟨r, _, _, _, rfl, rfl, hr2, rfl, ?_⟩
              walk_at "go"
              refine iteD (fun c3 => ?_) (fun c3 => ?_)
              · walk_at "go"
                refine ⟨r, _, _, _, rfl, rfl, hr2, rfl, ?_⟩
                walk_at "go"
                refine iteD (fun c4 => ?_) (fun c4 => ?_)
                · have hY : hold false b e (.nam who word c b0 e0) = true := by
                    simp [hold]
                    omega
                  rw [namsFrom, if_pos hY] at tk
                  walk_at "go"
                  refine ⟨.inl ⟨rfl, _, sq_of hq2⟩, ?_⟩
                  walk_at "go"
                  refine ⟨q, _, _, rfl, rfl, hq2, sz_lt (by rw [List.length_map]; omega), kPut fun H3 w3 h3 => ⟨_, _, _, rfl, w2.trans w3, ?_⟩⟩
                  rw [tk, List.map_append, h3]
                  simp [namsFrom]
                · have hY : ¬ hold false b e (.nam who word c b0 e0) = true := by
                    simp [hold]
                    omega
                  rw [namsFrom, if_neg hY, namsFrom, List.append_nil] at tk
                  walk_at "go"
                  exact ⟨w2, by rw [tk]; exact hq2⟩
              · have hY : ¬ hold false b e (.nam who word c b0 e0) = true := by
                  simp [hold]
                  omega
                rw [namsFrom, if_neg hY, namsFrom, List.append_nil] at tk
                walk_at "go"
                exact ⟨w2, by rw [tk]; exact hq2⟩
          · walk_at "go"
            refine ⟨r, _, _, _, rfl, rfl, hr2, rfl, ?_⟩
            walk_at "go"
            refine iteD (fun c3 => ?_) (fun c3 => ?_)
            · walk_at "go"
              refine ⟨r, _, _, _, rfl, rfl, hr2, rfl, ?_⟩
              walk_at "go"
              refine iteD (fun c4 => ?_) (fun c4 => ?_)
              · have hY : hold false b e (.nam who word c b0 e0) = true := by
                  simp [hold]
                  omega
                rw [namsFrom, if_pos hY] at tk
                walk_at "go"
                refine ⟨.inl ⟨rfl, _, sq_of hq2⟩, ?_⟩
                walk_at "go"
                refine ⟨q, _, _, rfl, rfl, hq2, sz_lt (by rw [List.length_map]; omega), kPut fun H3 w3 h3 => ⟨_, _, _, rfl, w2.trans w3, ?_⟩⟩
                rw [tk, List.map_append, h3]
                simp [namsFrom]
              · have hY : ¬ hold false b e (.nam who word c b0 e0) = true := by
                  simp [hold]
                  omega
                rw [namsFrom, if_neg hY, namsFrom, List.append_nil] at tk
                walk_at "go"
                exact ⟨w2, by rw [tk]; exact hq2⟩
            · have hY : ¬ hold false b e (.nam who word c b0 e0) = true := by
                simp [hold]
                omega
              rw [namsFrom, if_neg hY, namsFrom, List.append_nil] at tk
              walk_at "go"
              exact ⟨w2, by rw [tk]; exact hq2⟩
      | lev who g t1 t2 b0 e0 o =>
        obtain ⟨p, vg, pt, ps, vo, rfl, q1, _⟩ := hd_lev hd
        walk_at "go"
        refine ⟨p, _, _, _, rfl, rfl, q1, rfl, ?_⟩
        walk_at "go"
        refine ⟨rfl, ?_⟩
        walk_at "go"
        refine ⟨w2, ?_⟩
        rw [tk]
        simpa [namsFrom] using hq2
    · rintro σ H2 ⟨o1, o2, o3, rfl, w2, hq2⟩
      walk_at "go"
      rw [lu, List.take_length] at hq2
      exact k q H2 (But.new s1 w2 nq) nq hq2
end
end NC
-- NcLaw2
set_option Elab.async false
set_option linter.all false
set_option maxRecDepth 100000
set_option maxHeartbeats 4000000
namespace NC
local macro_rules | `(tactic| walk_at "go") => `(tactic| (repeat (first
  | (refine ⟨_, rfl, ?_⟩)
  | (refine ⟨_, _, rfl, rfl, ?_⟩)
  | (refine ⟨_, _, rfl, ?_⟩)
  | (refine ⟨_, _, _, rfl, ?_⟩)
  | (refine Or.inl ⟨_, rfl, ?_⟩)
  | (refine iteT ?_)
  | (refine iteF ?_))))
open PySem PySem.Spec PyProof.Rows L2 PySem.W
def spPlace (K : PySem.W.Frag) : Sp := fun vs H Q _ => ∃ i m : Int, vs = [.int i, .int m] ∧ Q (.bl (decide (0 ≤ i) && decide (i < m))) H
def spWordYes (K : PySem.W.Frag) : Sp := fun vs H Q _ => ∃ z : Str, vs = [.str z] ∧ WordOk z ∧ ∀ H', Same H H' → Q (.bl true) H'
theorem abc_has {c : Nat} (h1 : 97 ≤ c) (h2 : c ≤ 122) : c ∈ (Str.ofString "abcdefghijklmnopqrstuvwxyz").cps.toList := by
  have z : ∀ k : Nat, k < 26 → 97 + k ∈ (Str.ofString "abcdefghijklmnopqrstuvwxyz").cps.toList := by decide +kernel
  have q := z (c - 97) (by omega)
  rwa [show 97 + (c - 97) = c by omega] at q
abbrev NN_law_is_place : List Str := ["_law_thing", "_law_many"]
theorem sc_law_is_place : FnScope NN_law_is_place ["_law_thing", "_law_many"] (defScope s_law_is_place) := ⟨rfl, rfl, rfl, by decide +kernel, rfl, by decide +kernel, by decide +kernel⟩
abbrev NN_law_is_word : List Str := ["_law_thing", "_law_sign"]
theorem sc_law_is_word : FnScope NN_law_is_word ["_law_thing"] (defScope s_law_is_word) := ⟨rfl, rfl, rfl, by decide +kernel, rfl, by decide +kernel, by decide +kernel⟩
section
variable {P : Program} {w : World} {K : PySem.W.Frag} {mg : Str → Option Value} {base : Heap}
-- 0 _law_thing; 1 _law_many
theorem cal_is_place (T : Txt K mg) : Cal P w K mg base 1 "_law_is_place" (spPlace K) := by
  refine cal_of T.f_law_is_place T.g_law_is_place sc_law_is_place (fun vs H Q E h => ?_) (fun _ _ _ _ _ _ us hl => match us, hl with | [_, _], _ => rfl) (fun cdv A outer s H vs Q E hr h => ?_)
  · obtain ⟨i, m, rfl, _⟩ := h
    rfl
  · obtain ⟨i, m, rfl, k⟩ := h
    refine ⟨_, 
      (pss_one (ps_ret (pe_and (bB call_isi T.n_isinstance (pa_cons (pv 0) (pa_cons (pe_bltn (v := .ty "int") (by rfl) T.n_int (by decide +kernel) rfl) pa_nil))) (pe_and (pe_not (bB call_isi T.n_isinstance (pa_cons (pv 0) (pa_cons (pe_bltn (v := .ty "bool") (by rfl) T.n_bool (by decide +kernel) rfl) pa_nil)))) (pe_one (pe_chain op_le op_lt pe_int (pv 0) (pv 1))))))), ?_⟩
    walk_at "go"
    refine ⟨_, _, _, _, _, rfl, .ty _, ty_int i, kit_ii, ?_⟩
    walk_at "go"
    refine ⟨_, _, _, _, _, rfl, .ty _, ty_int i, kit_ib, ?_⟩
    walk_at "go"
    refine iteD (fun c1 => ?_) (fun c1 => ?_)
    · walk_at "go"
      rw [decide_eq_true c1, Bool.true_and] at k
      exact k
    · rw [decide_eq_false c1, Bool.false_and] at k
      exact k
-- 0 _law_thing; 1 _law_sign
theorem cal_is_word (T : Txt K mg) : Cal P w K mg base 1 "_law_is_word" (spWordYes K) := by
  refine cal_of T.f_law_is_word T.g_law_is_word sc_law_is_word (fun vs H Q E h => ?_) (fun _ _ _ _ _ _ us hl => match us, hl with | [_], _ => rfl) (fun cdv A outer s H vs Q E hr h => ?_)
  · obtain ⟨z, rfl, _⟩ := h
    rfl
  · obtain ⟨z, rfl, ok, k⟩ := h
    have nd := sc_law_is_word.nd
    refine ⟨_, 
      (pss_cons (ps_if (PW.pt (pw_or (pt_not (pt_val (bB call_isi T.n_isinstance (pa_cons (pv 0) (pa_cons (pe_bltn (v := .ty "str") (by rfl) T.n_str (by decide +kernel) rfl) pa_nil))))) (pw_or1 (pt_not (pt_chain op_le op_le pe_int (bB call_len T.n_len (pa_cons (pv 0) pa_nil)) pe_int))))) 
        (pss_one (ps_ret pe_bl)) pss_nil)
      (pss_one (ps_ret (pe_cmpR (op_eqT (α := (List Str)) hr.units) (pe_lc (own := [("_law_sign", 1)]) rfl nd (pi_str (pv 0)) (blkOk_by (N := NN_law_is_word) (sc := defScope s_law_is_word) (by decide +kernel)) (fun _ _ _ _ _ => (pg_name (i := 1) nd rfl (Or.inl rfl))) (fun _ _ _ _ _ => (pts_one (pt_cmpR op_notIn_sign (pv 1) pe_str (by rfl)))) (fun _ _ _ _ _ => (pv 1))) (pe_lst pa_nil) (nomark _))))), ?_⟩
    walk_at "go"
    refine ⟨_, _, _, _, _, rfl, .ty _, ty_str z, kit_ss, ?_⟩
    walk_at "go"
    refine ⟨_, z.length, rfl, ⟨sz_of (by have := ok.2.1; omega), rfl⟩, ?_⟩
    walk_at "go"
    refine iteD (fun c1 => ?_) (fun c1 => absurd (by have := ok.1; omega) c1)
    walk_at "go"
    refine iteDN (fun c2 => absurd (by have := ok.2.1; omega) c2) (fun c2 => ?_)
    walk_at "go"
    intro D nD
    refine lc_it walk_str (fun _ H' => H' = upd H D (.lst [])) rfl (fun _ _ _ _ => trivial) ?_ ?_
    · rintro i x H1 H2 hi rfl ⟨rfl, c, hc, rfl⟩
      refine ⟨rfl, ?_⟩
      walk_at "go"
      have hm : c ∈ z.cps.toList := List.mem_of_getElem? (by rw [Array.getElem?_toList]; exact hc)
      refine iteN ?_ rfl
      rw [decide_eq_true (abc_has (ok.2.2 c hm).1 (ok.2.2 c hm).2)]
      rfl
    · rintro H1 rfl
      walk_at "go"
      refine ⟨Nat.zero_le _, fun q nq => kNew nq fun H2 s2 h2 => ?_⟩
      have hD : H2 D = some (.lst []) := s2 _ _ upd_same
      have k2 := k H2 ((upd_new nD).trans s2)
      exact ⟨[], [], hd_lst (sq_of hD) hdAll_nil, hd_lst (sq_of h2) hdAll_nil, k2⟩
end
end NC
-- NcChk
set_option Elab.async false
set_option linter.all false
set_option maxRecDepth 100000
set_option maxHeartbeats 4000000
namespace NC
local macro_rules | `(tactic| walk_at "go") => `(tactic| (repeat (first
  | (refine ⟨_, rfl, ?_⟩)
  | (refine ⟨_, _, rfl, rfl, ?_⟩)
  | (refine ⟨_, _, rfl, ?_⟩)
  | (refine ⟨_, _, _, rfl, ?_⟩)
  | (refine Or.inl ⟨_, rfl, ?_⟩)
  | (refine iteT ?_)
  | (refine iteF ?_))))
open PySem PySem.Spec PyProof.Rows L2 PySem.W
def spIsInt (K : PySem.W.Frag) : Sp := fun vs H Q _ => ∃ i : Int, vs = [.int i] ∧ Q (.bl true) H
def spIsNum (K : PySem.W.Frag) : Sp := fun vs H Q _ => ∃ i : Int, vs = [.int i] ∧ 0 ≤ i ∧ i ≤ 1000000000000000000000000000000 ∧ Q (.bl true) H
def spIsWord (K : PySem.W.Frag) : Sp := fun vs H Q _ => ∃ v : V, vs = [v] ∧ ((∃ z, v = .str z ∧ WordOk z ∧ ∀ H', Same H H' → Q (.bl true) H') ∨ (((∃ i, v = .int i) ∨ ∃ a xs, v = .ref a ∧ SqT K H a xs) ∧ Q (.bl false) H))
def spIsStretch (K : PySem.W.Frag) : Sp := fun vs H Q _ => ∃ (a : Addr) (b e : Int), vs = [.ref a] ∧ SqT K H a [.int b, .int e] ∧ SpanOk b e ∧ Q (.bl true) H
def spIsChain (K : PySem.W.Frag) : Sp := fun vs H Q _ => ∃ a : Addr, vs = [.ref a, .int 4] ∧ ((∃ c, SqT K H a (c.map V.str) ∧ ChainOk 4 c ∧ ∀ H', Same H H' → Q (.bl true) H') ∨ ∃ (k : Int) (p : Addr) (xs : List V), SqT K H a [.int k, .ref p] ∧ SqT K H p xs ∧ ∀ H', Same H H' → Q (.bl false) H')
theorem all_true (n : Nat) : (List.replicate n true).all id = true := by
  induction n with
  | zero => rfl
  | succ n ih => rw [List.replicate_succ, List.all_cons, ih]; rfl
abbrev NN_is_integer : List Str := ["value"]
theorem sc_is_integer : FnScope NN_is_integer ["value"] (defScope s_is_integer) := ⟨rfl, rfl, rfl, by decide +kernel, rfl, by decide +kernel, by decide +kernel⟩
abbrev NN_is_number : List Str := ["value"]
theorem sc_is_number : FnScope NN_is_number ["value"] (defScope s_is_number) := ⟨rfl, rfl, rfl, by decide +kernel, rfl, by decide +kernel, by decide +kernel⟩
abbrev NN_is_word : List Str := ["value", "letter"]
theorem sc_is_word : FnScope NN_is_word ["value"] (defScope s_is_word) := ⟨rfl, rfl, rfl, by decide +kernel, rfl, by decide +kernel, by decide +kernel⟩
abbrev NN_is_stretch : List Str := ["value"]
theorem sc_is_stretch : FnScope NN_is_stretch ["value"] (defScope s_is_stretch) := ⟨rfl, rfl, rfl, by decide +kernel, rfl, by decide +kernel, by decide +kernel⟩
abbrev NN_is_chain : List Str := ["value", "most", "word"]
theorem sc_is_chain : FnScope NN_is_chain ["value", "most"] (defScope s_is_chain) := ⟨rfl, rfl, rfl, by decide +kernel, rfl, by decide +kernel, by decide +kernel⟩
section
variable {P : Program} {w : World} {K : PySem.W.Frag} {mg : Str → Option Value} {base : Heap}
theorem cal_is_integer (T : Txt K mg) : Cal P w K mg base 1 "is_integer" (spIsInt K) := by
  refine cal_of T.f_is_integer T.g_is_integer sc_is_integer (fun vs H Q E h => ?_) (fun _ _ _ _ _ _ us hl => match us, hl with | [_], _ => rfl) (fun cdv A outer s H vs Q E hr h => ?_)
  · obtain ⟨i, rfl, _⟩ := h
    rfl
  · obtain ⟨i, rfl, k⟩ := h
    refine ⟨_, 
      (pss_one (ps_ret (pe_and (bB call_isi T.n_isinstance (pa_cons (pv 0) (pa_cons (pe_bltn (v := .ty "int") (by rfl) T.n_int (by decide +kernel) rfl) pa_nil))) (pe_one (pe_not (bB call_isi T.n_isinstance (pa_cons (pv 0) (pa_cons (pe_bltn (v := .ty "bool") (by rfl) T.n_bool (by decide +kernel) rfl) pa_nil)))))))), ?_⟩
    walk_at "go"
    refine ⟨_, _, _, _, _, rfl, .ty _, ty_int i, kit_ii, ?_⟩
    walk_at "go"
    refine ⟨_, _, _, _, _, rfl, .ty _, ty_int i, kit_ib, ?_⟩
    walk_at "go"
    exact k
theorem cal_is_number (T : Txt K mg) : Cal P w K mg base 2 "is_number" (spIsNum K) := by
  have c_is_integer : Cal P w K mg base 1 "is_integer" (spIsInt K) := cal_is_integer T
  refine cal_of T.f_is_number T.g_is_number sc_is_number (fun vs H Q E h => ?_) (fun _ _ _ _ _ _ us hl => match us, hl with | [_], _ => rfl) (fun cdv A outer s H vs Q E hr h => ?_)
  · obtain ⟨i, rfl, _⟩ := h
    rfl
  · obtain ⟨i, rfl, h0, h1, k⟩ := h
    refine ⟨_, 
      (pss_one (ps_ret (pe_and (pe_c c_is_integer hr (by rfl) (pa_cons (pv 0) pa_nil)) (pe_one (pe_chain op_le op_le pe_int (pv 0) (pe_gi T.i_LIMIT)))))), ?_⟩
    walk_at "go"
    refine iteK (decide_eq_true h0) ?_
    refine ⟨_, _, rfl, rfl, ?_⟩
    show Q (.bl (decide (i ≤ 1000000000000000000000000000000))) H
    rw [decide_eq_true h1]
    exact k
theorem cal_is_wordP (T : Txt K mg) : Cal P w K mg base 1 "is_word" (spIsWord K) := by
  refine cal_of T.f_is_word T.g_is_word sc_is_word (fun vs H Q E h => ?_) (fun _ _ _ _ _ _ us hl => match us, hl with | [_], _ => rfl) (fun cdv A outer s H vs Q E hr h => ?_)
  · obtain ⟨v, rfl, _⟩ := h
    rfl
  · obtain ⟨v, rfl, h⟩ := h
    have nd := sc_is_word.nd
    refine ⟨_, 
      (pss_cons (ps_if (PW.pt (pw_or (pt_not (pt_val (bB call_isi T.n_isinstance (pa_cons (pv 0) (pa_cons (pe_bltn (v := .ty "str") (by rfl) T.n_str (by decide +kernel) rfl) pa_nil))))) (pw_or1 (pt_not (pt_chain op_le op_le pe_int (bB call_len T.n_len (pa_cons (pv 0) pa_nil)) (pe_gi T.i_MAX_LETTERS)))))) 
        (pss_one (ps_ret pe_bl)) pss_nil)
      (pss_one (ps_ret (bB (cr_all rfl) T.n_all (pa_cons (pe_lc (own := [("letter", 1)]) rfl nd (pi_str (pv 0)) (blkOk_by (N := NN_is_word) (sc := defScope s_is_word) (by decide +kernel)) (fun _ _ _ _ _ => (pg_name (i := 1) nd rfl (Or.inl rfl))) (fun _ _ _ _ _ => pts_nil) (fun _ _ _ _ _ => (pe_cmpR op_in_sign (pv 1) (pe_gz T.z_LETTERS) (by rfl)))) pa_nil))))), ?_⟩
    walk_at "go"
    rcases h with ⟨z, rfl, ok, k⟩ | ⟨h, k⟩
    · refine ⟨_, _, _, _, _, rfl, .ty _, ty_str z, kit_ss, ?_⟩
      walk_at "go"
      refine ⟨_, z.length, rfl, ⟨sz_of (by have := ok.2.1; omega), rfl⟩, ?_⟩
      walk_at "go"
      refine iteD (fun c1 => ?_) (fun c1 => absurd (by have := ok.1; omega) c1)
      walk_at "go"
      refine iteDN (fun c2 => absurd (by have := ok.2.1; omega) c2) (fun c2 => ?_)
      walk_at "go"
      intro D nD
      refine lc_it walk_str (fun i H' => But D H H' ∧ H' D = some (.lst ((List.replicate i true).map V.bl))) ⟨upd_but, upd_same⟩ (fun _ _ _ _ => trivial) ?_ ?_
      · rintro i x H1 H2 hi ⟨w1, hD⟩ ⟨rfl, c, hc, rfl⟩
        refine ⟨rfl, ?_⟩
        walk_at "go"
        have hm : c ∈ z.cps.toList := List.mem_of_getElem? (by rw [Array.getElem?_toList]; exact hc)
        have lz : z.cps.size ≤ 8 := ok.2.1
        rw [decide_eq_true (abc_has (ok.2.2 c hm).1 (ok.2.2 c hm).2)]
        refine ⟨_, hD, by rw [List.length_map, List.length_replicate]; exact sz_lt (by omega), w1.trans upd_but, ?_⟩
        rw [upd_same, List.replicate_succ', List.map_append]
        rfl
      · rintro H1 ⟨w1, hD⟩
        walk_at "go"
        refine ⟨D, List.replicate z.cps.size true, rfl, sq_of hD, ?_⟩
        rw [all_true]
        exact k H1 (But.new (Same.refl H) w1 nD)
    · rcases h with ⟨i, rfl⟩ | ⟨a, xs, rfl, hs⟩
      · refine ⟨_, _, _, _, _, rfl, .ty _, ty_int i, kit_is, ?_⟩
        walk_at "go"
        exact k
      · refine ⟨_, _, _, _, _, rfl, .ty _, ty_tup hs, kit_ts, ?_⟩
        walk_at "go"
        exact k
theorem cal_is_stretch (T : Txt K mg) : Cal P w K mg base 3 "is_stretch" (spIsStretch K) := by
  have c_is_number : Cal P w K mg base 2 "is_number" (spIsNum K) := cal_is_number T
  refine cal_of T.f_is_stretch T.g_is_stretch sc_is_stretch (fun vs H Q E h => ?_) (fun _ _ _ _ _ _ us hl => match us, hl with | [_], _ => rfl) (fun cdv A outer s H vs Q E hr h => ?_)
  · obtain ⟨a, b, e, rfl, _⟩ := h
    rfl
  · obtain ⟨a, b, e, rfl, ha, ok, k⟩ := h
    refine ⟨_, 
      (pss_cons (ps_if (PW.pt (pw_or (pt_not (pt_val (bB call_isi T.n_isinstance (pa_cons (pv 0) (pa_cons (pe_bltn (v := .ty "tuple") (by rfl) T.n_tuple (by decide +kernel) rfl) pa_nil))))) (pw_or1 (pt_cmpR op_ne (bB call_len T.n_len (pa_cons (pv 0) pa_nil)) pe_int (nomark _))))) 
        (pss_one (ps_ret pe_bl)) pss_nil)
      (pss_one (ps_ret (pe_and (pe_c c_is_number hr (by rfl) (pa_cons (pe_ix ix_tup (pv 0) pe_int (fun _ _ => rfl)) pa_nil)) (pe_and (pe_c c_is_number hr (by rfl) (pa_cons (pe_ix ix_tup (pv 0) pe_int (fun _ _ => rfl)) pa_nil)) (pe_one (pe_cmpR op_le (pe_ix ix_tup (pv 0) pe_int (fun _ _ => rfl)) (pe_ix ix_tup (pv 0) pe_int (fun _ _ => rfl)) (nomark _)))))))), ?_⟩
    walk_at "go"
    refine ⟨_, _, _, _, _, rfl, .ty _, ty_tup ha, kit_tt, ?_⟩
    walk_at "go"
    refine ⟨_, 2, rfl, .inr ⟨_, ha, rfl⟩, ?_⟩
    walk_at "go"
    refine ⟨rfl, ?_⟩
    walk_at "go"
    refine ⟨a, _, _, _, rfl, rfl, ha, rfl, ?_⟩
    refine ⟨b, rfl, ok.1, by have := ok.2.1; have := ok.2.2; omega, ?_⟩
    walk_at "go"
    refine ⟨a, _, _, _, rfl, rfl, ha, rfl, ?_⟩
    refine ⟨e, rfl, by have := ok.2.1; have := ok.1; omega, ok.2.2, ?_⟩
    walk_at "go"
    refine ⟨a, _, _, _, rfl, rfl, ha, rfl, ?_⟩
    walk_at "go"
    refine ⟨a, _, _, _, rfl, rfl, ha, rfl, ?_⟩
    walk_at "go"
    show Q (.bl (decide (b ≤ e))) H
    rw [decide_eq_true ok.2.1]
    exact k
theorem cal_is_chain (T : Txt K mg) : Cal P w K mg base 2 "is_chain" (spIsChain K) := by
  have c_is_word : Cal P w K mg base 1 "is_word" (spIsWord K) := cal_is_wordP T
  refine cal_of T.f_is_chain T.g_is_chain sc_is_chain (fun vs H Q E h => ?_) (fun _ _ _ _ _ _ us hl => match us, hl with | [_, _], _ => rfl) (fun cdv A outer s H vs Q E hr h => ?_)
  · obtain ⟨a, rfl, _⟩ := h
    rfl
  · obtain ⟨a, rfl, h⟩ := h
    have nd := sc_is_chain.nd
    refine ⟨_, 
      (pss_cons (ps_if (PW.pt (pw_or (pt_not (pt_val (bB call_isi T.n_isinstance (pa_cons (pv 0) (pa_cons (pe_bltn (v := .ty "tuple") (by rfl) T.n_tuple (by decide +kernel) rfl) pa_nil))))) (pw_or1 (pt_not (pt_chain op_le op_le pe_int (bB call_len T.n_len (pa_cons (pv 0) pa_nil)) (pe_op op_add (pv 1) pe_int)))))) 
        (pss_one (ps_ret pe_bl)) pss_nil)
      (pss_one (ps_ret (bB (cr_all rfl) T.n_all (pa_cons (pe_lc (own := [("word", 2)]) rfl nd (pi_tup (pv 0)) (blkOk_by (N := NN_is_chain) (sc := defScope s_is_chain) (by decide +kernel)) (fun _ _ _ _ _ => (pg_name (i := 2) nd rfl (Or.inl rfl))) (fun _ _ _ _ _ => pts_nil) (fun _ _ _ _ _ => (pe_c c_is_word hr (by rfl) (pa_cons (pv 2) pa_nil)))) pa_nil))))), ?_⟩
    walk_at "go"
    obtain ⟨xs, ha, l1, l5⟩ : ∃ xs, SqT K H a xs ∧ 1 ≤ xs.length ∧ xs.length ≤ 5 := by
      rcases h with ⟨c, ha, ok, _⟩ | ⟨k, p, xs, ha, _⟩
      · exact ⟨_, ha, by rw [List.length_map]; exact ok.1, by rw [List.length_map]; exact ok.2.1⟩
      · exact ⟨_, ha, by show 1 ≤ 2; decide, by show 2 ≤ 5; decide⟩
    refine ⟨_, _, _, _, _, rfl, .ty _, ty_tup ha, kit_tt, ?_⟩
    walk_at "go"
    refine ⟨_, xs.length, rfl, .inr ⟨_, ha, rfl⟩, ?_⟩
    walk_at "go"
    refine iteD (fun c1 => ?_) (fun c1 => absurd (by omega) c1)
    walk_at "go"
    refine iteDN (fun c2 => absurd (by omega) c2) (fun c2 => ?_)
    walk_at "go"
    clear ha l1 l5 c1 c2 xs
    rcases h with ⟨c, ha, ok, k⟩ | ⟨k0, p, xs, ha, hp, k⟩
    · refine ⟨⟨_, ha⟩, fun D nD => ?_⟩
      refine lc_it (walk_tup (xs := c.map V.str)) (fun i H' => But D H H' ∧ H' D = some (.lst ((List.replicate i true).map V.bl))) ⟨upd_but, upd_same⟩ (fun i H' _ ⟨w, _⟩ => sq_t (But.new (Same.refl H) w nD) ha) ?_ ?_
      · rintro i y _ H1 hi ⟨w1, hD⟩ ⟨rfl, hy⟩
        rw [List.getElem?_map] at hy
        obtain ⟨z, hz, rfl⟩ := Option.map_eq_some_iff.mp hy
        have lc := ok.2.1
        rw [List.length_map] at hi
        refine ⟨rfl, ?_⟩
        walk_at "go"
        refine ⟨ok.2.2 z (List.mem_of_getElem? hz), fun H2 s2 => ?_⟩
        refine ⟨_, s2 _ _ hD, by rw [List.length_map, List.length_replicate]; exact sz_lt (by omega), (w1.same s2).trans upd_but, ?_⟩
        rw [upd_same, List.replicate_succ', List.map_append]
        rfl
      · rintro H1 ⟨w1, hD⟩
        walk_at "go"
        refine ⟨D, List.replicate (c.map V.str).length true, rfl, sq_of hD, ?_⟩
        rw [all_true]
        exact k H1 (But.new (Same.refl H) w1 nD)
    · refine ⟨⟨_, ha⟩, fun D nD => ?_⟩
      refine lc_it (walk_tup (xs := [.int k0, .ref p])) (fun i H' => But D H H' ∧ H' D = some (.lst ((List.replicate i false).map V.bl))) ⟨upd_but, upd_same⟩ (fun i H' _ ⟨w, _⟩ => sq_t (But.new (Same.refl H) w nD) ha) ?_ ?_
      · rintro i y _ H1 hi ⟨w1, hD⟩ ⟨rfl, hy⟩
        have hi : i < 2 := hi
        have hw : (∃ i, y = V.int i) ∨ ∃ a xs, y = V.ref a ∧ SqT K H1 a xs := by
          match i, hi, hy with
          | 0, _, hy => cases hy; exact .inl ⟨_, rfl⟩
          | 1, _, hy => cases hy; exact .inr ⟨_, _, rfl, sq_t (But.new (Same.refl H) w1 nD) hp⟩
        refine ⟨rfl, ?_⟩
        walk_at "go"
        refine .inr ⟨hw, ?_⟩
        refine ⟨_, hD, by rw [List.length_map, List.length_replicate]; exact sz_lt (by omega), w1.trans upd_but, ?_⟩
        rw [upd_same, List.replicate_succ', List.map_append]
        rfl
      · rintro H1 ⟨w1, hD⟩
        walk_at "go"
        exact ⟨D, List.replicate 2 false, rfl, sq_of hD, k H1 (But.new (Same.refl H) w1 nD)⟩
end
end NC
-- NcSup2
set_option Elab.async false
set_option linter.all false
set_option maxRecDepth 100000
set_option maxHeartbeats 4000000
/-! Methods by their facts; the two classes that call super().__init__. -/
namespace NC
open PySem PySem.Spec PyProof.Rows L2 PySem.W NdefX
/-- what is asked of the program besides the heap -/
structure PrgOk (P : Program) : Prop where
  file : P.main.file = PySem.Challenge.pw_namechains_k20_whole_papers_for_stretche.main.file
  sup : (P.main.scope.names.lookup ("super" : Str)).isSome = false
section
variable {P : Program} {w : World} {K : PySem.W.Frag} {mg : Str → Option Value} {base : Heap}
/-- a method: its promise, how its arguments come -/
structure MthOk (P : Program) (w : World) (K : PySem.W.Frag) (mg : Str → Option Value) (base : Heap) (k : Nat) (f : Addr) (ps : List Str) (sp : Sp) : Prop where
  ex : ∃ fd, FnOk P w K mg base CX0 k f fd ps sp ∧ Binds K fd ps []
theorem mth_of {x qual : Str} {params : Arguments} {body : List Stmt} {scope : Scope} {f : Addr} {N ps : List Str} {k : Nat} {sp : Sp} (F : ∃ fd, FunD K x qual params body scope [] [] f fd) (S : FnScope N ps scope) (len : ∀ vs H Q E, sp vs H Q E → vs.length = ps.length)
    (hb : ∀ (kV doc pm : Value) (an : Option Addr) (cdv ct : Value) (us : List Value), us.length = ps.length → bindArgs (PySem.W.fnOf x qual params body scope .none kV doc pm an cdv ct) ⟨us, []⟩ = pure (ps.zip us))
    (hbody : ∀ (cdv : Value) (A : Around) (outer : List Env) (s : Shared) (H : Hp) (vs : List V) (Q : VK) (E : XK), Room k (A.deeper (envOfC qual scope s.heap.objs.size f cdv)) → sp vs H Q E →
      ∃ t, PSs (cxOf CX0 P w K mg base N qual scope f cdv A outer s H E).nox body t ∧ t { nx := fun _ H' => Q .non H', rt := Q } (start N vs) H) : MthOk P w K mg base (k + 1) f ps sp := by
  obtain ⟨fd, F⟩ := F
  refine ⟨fd, F.ok S len fun cdv A outer s H vs Q E hr h => ?_, F.bindsN hb⟩
  obtain ⟨t, h1, h2⟩ := hbody cdv A outer s H vs Q E hr h
  exact ⟨t, h1.nox, h2⟩
theorem MthOk.fnR {k : Nat} {f : Addr} {ps : List Str} {sp : Sp} (M : MthOk P w K mg base k f ps sp) : FnR P w K mg base CX0 k f sp := by
  obtain ⟨fd, F, b⟩ := M.ex
  intro A outer s H us vs Q E hr e0 r h
  have hl : us.length = ps.length := by rw [← r.length]; exact F.len _ _ _ _ h
  have z := b s us (e0.mod.kin.keeps fun b o e => (e0.bs b o e).1) (by rw [List.append_nil]; exact hl)
  rw [List.append_nil] at z
  exact F.run A outer s H ⟨us, []⟩ us vs Q E hr e0 z r h
/-- o.m() of a class at C -/
theorem pe_mt0 {X : Cx} {C f : Addr} {m : Str} {o : Expr} {ta : TE} {apos pos : Pos} {ps : List Str} {sp : Sp} {k j : Nat} {pl : Sem Bool} (M : MthOk X.prog X.w X.K X.mg X.base k f ps sp) (hr : Room j X.A) (c : Cls X.K C) (hm : Meth X.K C m f) (he : PE X o ta) (hk : k ≤ j := by decide)
    (ht : eval (.Call (.Attribute o m apos) [] [] pos) X.env = (do
      let ov ← eval o X.env
      standAt apos.atName
      let (f, first) ← holding [ov] (getMethod ov m pl)
      callWith pos f first (backTo pos (starEach [] X.env)) (backToKw pos (keywordEach [] X.env))) := by rfl) : PE X (.Call (.Attribute o m apos) [] [] pos) (tMeth C m sp [] E0 ta tNil) := by
  obtain ⟨fd, F, b⟩ := M.ex
  exact pe_meth0 he c hm F (hr.mono hk) b .nil pass0 ht
/-- a def that closes over its class, by the facts -/
theorem sup_of {d : DefX} {C g : Addr} {fd : FuncData} (F : FunX K d fd) (hclo : d.clo = [("__class__" : Str)]) (hcell : (match K.lookup (d.ad K) with
      | some ⟨_, _, .func fd, _⟩ => (match fd.closure with
        | [(_, c)] => (match K.lookup c with
          | some ⟨_, _, .cell (some v), _⟩ => decide (v = .ref C)
          | _ => false)
        | _ => false)
      | _ => false) = true) (hfile : (match K.lookup (d.ad K) with
      | some ⟨_, _, .func fd, _⟩ => (match fd.code with
        | .ref c => (match K.lookup c with
          | some ⟨_, _, .fields vs, _⟩ => (match (vs[2]? : Option Value) with
            | some (.str z _) => decide (z = PySem.Challenge.pw_namechains_k20_whole_papers_for_stretche.main.file)
            | _ => false)
          | _ => false)
        | _ => false)
      | _ => false) = true) {D : Addr} (hmro : ∃ cd, PySem.W.clsIn K C = some cd ∧ cd.mro = [.ref C, .ref D, .type "object"]) (hal : PySem.W.alongIn K "__init__" [.ref D, .type "object"] = some (some (.ref g)))
    (fty : PySem.W.typeIn K (.ref g) = some (.type "function")) (fin : PySem.W.fnIn K g = true) (opq : PySem.W.nsIn K cStatics "thirdparty.any" = some none) :
    ∃ (cc cda : Addr), SupD K C g ⟨d.name, d.qual, d.params, d.body, d.scope, [("__class__", cc)], cda⟩ PySem.Challenge.pw_namechains_k20_whole_papers_for_stretche.main.file (d.ad K) cc fd := by
  obtain ⟨oc, od, dV, kV, doc, pm, an, cdv, ct, osl, clo, rfl, hc1, lk, hcode⟩ := F.ex
  rw [hclo] at hc1
  rw [lk] at hcell hfile
  obtain ⟨cc, rfl⟩ : ∃ cc, clo = [(("__class__" : Str), cc)] := by
    cases clo with
    | nil => cases hc1
    | cons q r =>
      obtain ⟨a, b⟩ := q
      cases r with
      | nil =>
        rw [List.map_cons, List.map_nil] at hc1
        have e : a = ("__class__" : Str) := (List.cons.inj hc1).1
        exact ⟨b, by rw [e]⟩
      | cons q2 r => cases hc1
  obtain ⟨cl, cld, csl, hcc⟩ : ∃ cl cld csl, K.lookup cc = some ⟨cl, cld, .cell (some (.ref C)), csl⟩ := by
    have z : (match K.lookup cc with
          | some ⟨_, _, .cell (some v), _⟩ => decide (v = .ref C)
          | _ => false) = true := hcell
    cases e : K.lookup cc with
    | none => rw [e] at z; cases z
    | some o =>
      obtain ⟨c, d, dt, sl⟩ := o
      rw [e] at z
      cases dt with
      | cell v =>
        cases v with
        | none => cases z
        | some v =>
          have ev : v = .ref C := of_decide_eq_true z
          subst ev
          exact ⟨_, _, _, rfl⟩
      | _ => cases z
  cases cdv with
  | ref cda =>
    obtain ⟨ccl, cdd, vs, ccs, tf, h1, h2⟩ : ∃ ccl cdd vs ccs tf, K.lookup cda = some ⟨ccl, cdd, .fields vs, ccs⟩ ∧ vs[2]? = some (.str PySem.Challenge.pw_namechains_k20_whole_papers_for_stretche.main.file tf) := by
      have z3 : (match K.lookup cda with
          | some ⟨_, _, .fields vs, _⟩ => (match (vs[2]? : Option Value) with
            | some (.str z _) => decide (z = PySem.Challenge.pw_namechains_k20_whole_papers_for_stretche.main.file)
            | _ => false)
          | _ => false) = true := hfile
      cases e : K.lookup cda with
      | none => rw [e] at z3; cases z3
      | some o =>
        obtain ⟨c, d, dt, sl⟩ := o
        rw [e] at z3
        cases dt with
        | fields vs =>
          have z4 : (match (vs[2]? : Option Value) with
            | some (.str z _) => decide (z = PySem.Challenge.pw_namechains_k20_whole_papers_for_stretche.main.file)
            | _ => false) = true := z3
          cases e2 : (vs[2]? : Option Value) with
          | none => rw [e2] at z4; cases z4
          | some v =>
            rw [e2] at z4
            cases v with
            | str z t =>
              have ez : z = _ := of_decide_eq_true z4
              rw [ez] at e2
              exact ⟨_, _, _, _, _, rfl, e2⟩
            | _ => cases z4
        | _ => cases z3
    obtain ⟨cd, hcd, hm⟩ := hmro
    have dr : (cd.mro.dropWhile (· != .ref C)).drop 1 = [.ref D, .type "object"] := by rw [hm]; exact PySem.ESX.drop_own C _
    refine ⟨cc, cda, ⟨⟨_, _, _, _, _, _, _, _, _, rfl, lk⟩, rfl, ⟨_, _, _, hcc⟩, hcode, ⟨_, _, _, _, _, h1, h2⟩, ⟨cd, hcd, (by rw [dr]; exact List.cons_ne_nil _ _), (by rw [dr]; exact hal)⟩, ?_, fty, fin, opq⟩⟩
    unfold PySem.W.mroIn
    rw [hcd, Option.bind_some, hm, if_neg (show ¬ (List.isEmpty [Value.ref C, .ref D, .type "object"] = true) from Bool.false_ne_true)]
    simp
  | _ => cases hfile
end
end NC
-- NcLaw3
set_option Elab.async false
set_option linter.all false
set_option maxRecDepth 100000
set_option maxHeartbeats 4000000
namespace NC
local macro_rules | `(tactic| walk_at "go") => `(tactic| (repeat (first
  | (refine ⟨_, rfl, ?_⟩)
  | (refine ⟨_, _, rfl, rfl, ?_⟩)
  | (refine ⟨_, _, rfl, ?_⟩)
  | (refine ⟨_, _, _, rfl, ?_⟩)
  | (refine Or.inl ⟨_, rfl, ?_⟩)
  | (refine iteT ?_)
  | (refine iteF ?_))))
open PySem PySem.Spec PyProof.Rows L2 PySem.W
def spReach (K : PySem.W.Frag) : Sp := fun vs H Q _ => ∃ (a r : Addr) (rs : List Row) (U c : List Str), vs = [.ref a, .ref r] ∧ Tab K false U H a rs ∧ U.length ≤ 40 ∧ SqT K H r (c.map V.str) ∧ c ≠ [] ∧ c.length ≤ 20 ∧
  ∀ q ys H', Same H H' → H q = none → H' q = some (.lst (ys.map V.str)) → AscS ys → (∀ x, x ∈ ys ↔ ReachC (RelT rs) c x) → Q (.ref q) H'
abbrev NN_law_reach : List Str := ["_law_table", "_law_row", "_law_here", "_law_word", "_law_there", "_law_who", "_law_one"]
theorem sc_law_reach : FnScope NN_law_reach ["_law_table", "_law_row"] (defScope s_law_reach) := ⟨rfl, rfl, rfl, by decide +kernel, rfl, by decide +kernel, by decide +kernel⟩
section
variable {P : Program} {w : World} {K : PySem.W.Frag} {mg : Str → Option Value} {base : Heap}
-- 0 _law_table; 1 _law_row; 2 _law_here; 3 _law_word; 4 _law_there; 5 _law_who; 6 _law_one
theorem cal_reach (T : Txt K mg) : Cal P w K mg base 1 "_law_reach" (spReach K) := by
  refine cal_of T.f_law_reach T.g_law_reach sc_law_reach (fun vs H Q E h => ?_) (fun _ _ _ _ _ _ us hl => match us, hl with | [_, _], _ => rfl) (fun cdv A outer s H vs Q E hr h => ?_)
  · obtain ⟨a, r, rs, U, c, rfl, _⟩ := h
    rfl
  · obtain ⟨a, r, rs, U, c, rfl, tab, hU, hrow, hc, hcl, k⟩ := h
    have nd := sc_law_reach.nd
    have hu := hu_of hr
    refine ⟨_, 
      (pss_cons (ps_set (i := 2) nd rfl (Or.inl rfl) (pe_lst (pa_cons (pe_ix ix_tup (pv 1) pe_int (fun _ _ => rfl)) pa_nil)))
      (pss_cons (ps_for PassesOwn.never rfl (pi_tup (pe_slice sl_tupA (pv 1) (po_some pe_int) po_none)) (pg_name (i := 3) nd rfl (Or.inl rfl)) 
        (pss_cons (ps_set (i := 4) nd rfl (Or.inr rfl) (pe_lst pa_nil))
        (pss_cons (ps_for PassesOwn.never rfl (pi_list (pv 2)) (pg_name (i := 5) nd rfl (Or.inl rfl)) 
          (pss_one (ps_expr (pe_bm PySem.F.plainAttrs_list PySem.F.slot_list_extend PySem.F.type_list_extend mt_extend (pv 4) (pa_cons (pe_lc (own := [("_law_one", 6)]) rfl nd (pi_list (pe_dget2 hu (pv 0) (pe_tup (pa_cons (pv 5) (pa_cons (pv 3) pa_nil))) (pe_lst pa_nil) ⟨by rfl, by rfl, by rfl, by rfl⟩)) (blkOk_by (N := NN_law_reach) (sc := defScope s_law_reach) (by decide +kernel)) (fun _ _ _ _ _ => (pg_name (i := 6) nd rfl (Or.inl rfl))) (fun _ _ _ _ _ => (pts_one (pt_cmpR (show OpR _ _ (rInT K Str true) from (op_notInT (α := Str) hr.units)) (pv 6) (pv 4) (by rfl)))) (fun _ _ _ _ _ => (pv 6))) pa_nil)))))
        (pss_one (ps_set (i := 2) nd rfl (Or.inl rfl) (pv 4))))))
      (pss_one (ps_ret (bB cr_sortedS T.n_sorted (pa_cons (pv 2) pa_nil)))))), ?_⟩
    walk_at "go"
    cases c with
    | nil => exact absurd rfl hc
    | cons p0 ns =>
      refine ⟨r, _, _, _, rfl, rfl, hrow, (show atI ((p0 :: ns).map V.str) 0 = some (.str p0) from at_nat (Int.le_refl 0) rfl), ?_⟩
      walk_at "go"
      refine ⟨by show 1 ≤ sizeLine; decide, fun q nq => kNew nq fun H1 s1 hq => ?_⟩
      walk_at "go"
      refine ⟨r, _, rfl, sq_t s1 hrow, fun h => absurd h tail_new, fun _ pn np => kNew np fun H2 s2 hpn => ?_⟩
      rw [List.map_cons, cut_tail] at hpn
      walk_at "go"
      have s02 := s1.trans s2
      refine ⟨⟨_, st_of hpn⟩, for_it (walk_tup (xs := ns.map V.str)) (fun i σ H' => ∃ (qh : Addr) (zs : List Str) (o1 o2 o3 o4 : Option V), σ = [some (.ref a), some (.ref r), some (.ref qh), o1, o2, o3, o4] ∧ Same H H' ∧ H' pn = some (.tup (ns.map V.str)) ∧
          H' qh = some (.lst (zs.map V.str)) ∧ zs.Nodup ∧ (∀ x ∈ zs, x ∈ p0 :: U) ∧ ∀ x, x ∈ zs ↔ Reach (RelT rs) p0 (ns.take i) x)
        ⟨q, [p0], none, none, none, none, rfl, s02, hpn, s2 _ _ hq, by simp, fun x hx => by rw [List.mem_singleton.mp hx]; exact List.mem_cons_self, fun x => by rw [List.mem_singleton]; exact Iff.rfl⟩ (fun i σ H' _ ⟨qh, zs, _, _, _, _, _, _, h, _⟩ => st_of h) ?_ ?_⟩
      · rintro i x σ _ H3 hi ⟨qh, zs, o1, o2, o3, o4, rfl, s3, hpn3, hqh, ndz, subz, mz⟩ ⟨rfl, hx⟩
        rw [List.getElem?_map] at hx
        obtain ⟨n, hn, rfl⟩ := Option.map_eq_some_iff.mp hx
        have lz := nd_le ndz subz
        rw [List.length_cons] at lz
        walk_at "go"
        refine ⟨Nat.zero_le _, fun t nt => kNew nt fun H4 s4 ht => ?_⟩
        walk_at "go"
        have s04 := s3.trans s4
        have nqt : qh ≠ t := ne_of_none hqh nt
        have npt : pn ≠ t := ne_of_none hpn3 nt
        have nt0 : H t = none := by
          cases e : H t with
          | none => rfl
          | some u => rw [s3 _ _ e] at nt; cases nt
        refine ⟨⟨_, sq_of (s4 _ _ hqh)⟩, for_it (walk_list (xs := zs.map V.str)) (fun j σ H' => ∃ (ws : List Str) (o5 o6 : Option V), σ = [some (.ref a), some (.ref r), some (.ref qh), some (.str n), some (.ref t), o5, o6] ∧ But t H4 H' ∧
            H' t = some (.lst (ws.map V.str)) ∧ ws.Nodup ∧ (∀ x ∈ ws, x ∈ U) ∧ ∀ x, x ∈ ws ↔ ∃ p ∈ zs.take j, RelT rs p n x)
          ⟨[], _, _, rfl, But.refl _ _, ht, List.nodup_nil, by simp, fun x => by simp⟩ (fun j σ H' _ ⟨ws, _, _, _, w, _⟩ => sq_of (w _ _ nqt (s4 _ _ hqh))) ?_ ?_⟩
        · rintro j y σ _ H5 hj ⟨ws, o5, o6, rfl, w5, ht5, ndw, subw, mw⟩ ⟨rfl, hy⟩
          rw [List.getElem?_map] at hy
          obtain ⟨p, hp, rfl⟩ := Option.map_eq_some_iff.mp hy
          have s05 : Same H H5 := But.new s04 w5 nt0
          walk_at "go"
          refine ⟨.inl ⟨rfl, _, sq_of ht5⟩, ?_⟩
          walk_at "go"
          have tab5 := tab.same s05
          refine ⟨.inr ⟨_, .inl tab5.at_⟩, ?_⟩
          walk_at "go"
          refine ⟨by show 2 ≤ sizeLine; decide, fun b nb => kNew nb fun H6 s6 hb => ?_⟩
          refine ⟨Nat.zero_le _, fun e ne => kNew ne fun H7 s7 he => ?_⟩
          have tab7 := (tab5.same s6).same s7
          obtain ⟨va, vals, ev, hva, mv, av, sv⟩ := tab7.get (e := e) he (p, n)
          have hva : H7 va = some (.lst (vals.map V.str)) := hva
          refine ⟨_, DGet.t tab7.at_ (show H7 b = some (.tup ((pk (p, n)).map kV)) from s7 _ _ hb), ?_⟩
          rw [ev]
          walk_at "go"
          refine ⟨⟨_, sq_of hva⟩, fun D nD => ?_⟩
          have nvD : va ≠ D := ne_of_none hva nD
          have ht7 : H7 t = some (.lst (ws.map V.str)) := s7 _ _ (s6 _ _ ht5)
          have ntD : t ≠ D := ne_of_none ht7 nD
          have lv := nd_le av.nodup sv
          have lw := nd_le ndw subw
          refine lc_it (walk_list (xs := vals.map V.str)) (fun m H' => But D H7 H' ∧ H' D = some (.lst (((vals.take m).filter fun x => decide (x ∉ ws)).map V.str))) ⟨upd_but, upd_same⟩ (fun m H' _ ⟨w, _⟩ => sq_of (w _ _ nvD hva)) ?_ ?_
          · rintro m z _ H8 hm ⟨w8, hD8⟩ ⟨rfl, hz⟩
            rw [List.getElem?_map] at hz
            obtain ⟨x, hx2, rfl⟩ := Option.map_eq_some_iff.mp hz
            refine ⟨rfl, ?_⟩
            walk_at "go"
            refine ⟨t, _, x, ws, rfl, .inl (sq_of (w8 _ _ ntD ht7)), hdAll_strs ws, hd_str x, ?_⟩
            walk_at "go"
            have tk : vals.take (m + 1) = vals.take m ++ [x] := by rw [List.take_add_one, hx2, Option.toList_some]
            have lf : ((vals.take m).filter fun x => decide (x ∉ ws)).length ≤ 40 := Nat.le_trans (List.length_filter_le _ _) (by rw [List.length_take]; omega)
            refine iteD (fun hin => ?_) (fun hin => ?_)
            · refine ⟨_, rfl, _, hD8, by rw [List.length_map]; exact sz_lt (by omega), w8.trans upd_but, ?_⟩
              rw [upd_same, tk, List.filter_append, List.filter_cons_of_pos (by simpa using hin), List.filter_nil, List.map_append]
              rfl
            · refine ⟨w8, ?_⟩
              rw [tk, List.filter_append, List.filter_cons_of_neg (by simpa using hin), List.filter_nil, List.append_nil]
              exact hD8
          · rintro H8 ⟨w8, hD8⟩
            rw [List.length_map, List.take_length] at hD8
            walk_at "go"
            have s78 : Same H7 H8 := But.new (Same.refl H7) w8 nD
            have ht8 := s78 _ _ ht7
            have ll : (vals.filter fun x => decide (x ∉ ws)).length ≤ 40 := Nat.le_trans (List.length_filter_le _ _) (by omega)
            refine ⟨t, D, _, _, rfl, rfl, ht8, hD8, sz_of (by rw [List.length_map, List.length_map]; omega), kPut fun H9 w9 h9 => ⟨ws ++ vals.filter (fun x => decide (x ∉ ws)), _, _, rfl, ?_, ?_, ?_, ?_, ?_⟩⟩
            · exact (w5.same ((s6.trans s7).trans s78)).trans w9
            · rw [List.map_append]
              exact h9
            · refine List.nodup_append.mpr ⟨ndw, av.nodup.sublist List.filter_sublist, fun x hx y hy e => ?_⟩
              have z := (List.mem_filter.mp hy).2
              rw [decide_eq_true_eq] at z
              exact z (e ▸ hx)
            · intro x hx
              rcases List.mem_append.mp hx with hx | hx
              · exact subw x hx
              · exact sv x (List.mem_filter.mp hx).1
            · intro x
              rw [List.take_add_one, hp, Option.toList_some, List.mem_append, List.mem_filter, decide_eq_true_eq, mw]
              constructor
              · rintro (⟨p', hp', h⟩ | ⟨h, _⟩)
                · exact ⟨p', List.mem_append_left _ hp', h⟩
                · exact ⟨p, List.mem_append_right _ List.mem_cons_self, (mv x).mp h⟩
              · rintro ⟨p', hp', h⟩
                rcases List.mem_append.mp hp' with hp' | hp'
                · exact .inl ⟨p', hp', h⟩
                · rw [List.mem_singleton.mp hp'] at h
                  by_cases hw : x ∈ ws
                  · exact .inl ((mw x).mp hw)
                  · exact .inr ⟨(mv x).mpr h, fun z => hw ((mw x).mpr z)⟩
        · rintro σ H5 ⟨ws, o5, o6, rfl, w5, ht5, ndw, subw, mw⟩
          rw [List.length_map, List.take_length] at mw
          walk_at "go"
          refine ⟨t, ws, _, _, _, _, rfl, But.new s04 w5 nt0, w5 _ _ npt (s4 _ _ hpn3), ht5, ndw, fun x hx => List.mem_cons_of_mem _ (subw x hx), fun x => ?_⟩
          rw [mw, List.take_add_one, hn, Option.toList_some, Reach.snoc]
          exact ⟨fun ⟨p, hp, h⟩ => ⟨p, (mz p).mp hp, h⟩, fun ⟨p, hp, h⟩ => ⟨p, (mz p).mpr hp, h⟩⟩
      · rintro σ H3 ⟨qh, zs, o1, o2, o3, o4, rfl, s3, hpn3, hqh, ndz, subz, mz⟩
        rw [List.length_map, List.take_length] at mz
        have lz := nd_le ndz subz
        rw [List.length_cons] at lz
        walk_at "go"
        refine ⟨qh, zs, rfl, sq_of hqh, by omega, fun ys u pm so nu => kNew nu fun H4 s4 hu => ?_⟩
        exact k u ys H4 (s3.trans s4) (by
          cases e : H u with
          | none => rfl
          | some o => rw [s3 _ _ e] at nu; cases nu) hu (asc_sorted so (pm.nodup_iff.mpr ndz)) fun x => by rw [pm.mem_iff, mz]; exact Iff.rfl
end
end NC
-- NcP1
set_option Elab.async false
set_option linter.all false
set_option maxRecDepth 100000
set_option maxHeartbeats 4000000
namespace NC
local macro_rules | `(tactic| walk_at "go") => `(tactic| (repeat (first
  | (refine ⟨_, rfl, ?_⟩)
  | (refine ⟨_, _, rfl, rfl, ?_⟩)
  | (refine ⟨_, _, rfl, ?_⟩)
  | (refine ⟨_, _, _, rfl, ?_⟩)
  | (refine Or.inl ⟨_, rfl, ?_⟩)
  | (refine iteT ?_)
  | (refine iteF ?_))))
open PySem PySem.Spec PyProof.Rows L2 PySem.W
def spPersons (K : PySem.W.Frag) : Sp := fun vs H Q _ => ∃ (a r : Addr) (rs : List Row) (U c : List Str), vs = [.ref a, .ref r] ∧ Tab K true U H a rs ∧ U.length ≤ 40 ∧ SqT K H r (c.map V.str) ∧ c ≠ [] ∧ c.length ≤ 20 ∧
  ∀ q ys H', Same H H' → SqT K H' q (ys.map V.str) → AscS ys → (∀ x, x ∈ ys ↔ ReachC (RelT rs) c x) → Q (.ref q) H'
/-- the members of a set of texts that a comprehension gathers -/
structure Coll (U : List Str) (L : List Key) (p : Str → Prop) : Prop where
  nd : L.Nodup
  sub : ∀ k ∈ L, ∃ x ∈ U, k = Sum.inr x
  mem : ∀ x, Sum.inr x ∈ L ↔ p x
theorem Coll.nil {U : List Str} : Coll U [] (fun _ => False) := ⟨List.nodup_nil, by simp, by simp⟩
theorem Coll.len {U : List Str} {L : List Key} {p : Str → Prop} (c : Coll U L p) : L.length ≤ U.length := by
  have z := nd_le c.nd (m := U.map Sum.inr) fun k hk => by
    obtain ⟨x, hx, e⟩ := c.sub k hk
    exact List.mem_map.mpr ⟨x, hx, e.symm⟩
  rwa [List.length_map] at z
theorem Coll.add {U : List Str} {L : List Key} {p q : Str → Prop} (c : Coll U L p) {x : Str} (hx : x ∈ U) (h : ∀ y, q y ↔ p y ∨ y = x) : Coll U (addL L (.inr x)) q := by
  refine ⟨addL_nodup c.nd, fun k hk => ?_, fun y => ?_⟩
  · rcases mem_addL.mp hk with rfl | hk
    · exact ⟨x, hx, rfl⟩
    · exact c.sub k hk
  · rw [mem_addL, c.mem, h]
    constructor
    · rintro (e | e)
      · cases e
        exact .inr rfl
      · exact .inl e
    · rintro (e | e)
      · exact .inr e
      · rw [e]
        exact .inl rfl
theorem Coll.as {U : List Str} {L : List Key} {p q : Str → Prop} (c : Coll U L p) (h : ∀ y, q y ↔ p y) : Coll U L q := ⟨c.nd, c.sub, fun x => (c.mem x).trans (h x).symm⟩
theorem Coll.room {U : List Str} {L : List Key} {p : Str → Prop} (c : Coll U L p) (h : U.length ≤ 40) : L.length + 1 < scanBound := by
  have := c.len
  have z : (4000 : Nat) < scanBound := by decide
  omega
abbrev NN_persons_in : List Str := ["table", "chain", "reached", "name", "person", "other"]
theorem sc_persons_in : FnScope NN_persons_in ["table", "chain"] (defScope s_persons_in) := ⟨rfl, rfl, rfl, by decide +kernel, rfl, by decide +kernel, by decide +kernel⟩
section
variable {P : Program} {w : World} {K : PySem.W.Frag} {mg : Str → Option Value} {base : Heap}
-- 0 table; 1 chain; 2 reached; 3 name; 4 person; 5 other
theorem cal_persons_in (T : Txt K mg) : Cal P w K mg base 1 "persons_in" (spPersons K) := by
  refine cal_of T.f_persons_in T.g_persons_in sc_persons_in (fun vs H Q E h => ?_) (fun _ _ _ _ _ _ us hl => match us, hl with | [_, _], _ => rfl) (fun cdv A outer s H vs Q E hr h => ?_)
  · obtain ⟨a, r, rs, U, c, rfl, _⟩ := h
    rfl
  · obtain ⟨a, r, rs, U, c, rfl, tab, hU, hrow, hc, hcl, k⟩ := h
    have nd := sc_persons_in.nd
    have hu := hu_of hr
    refine ⟨_, 
      (pss_cons (ps_set (i := 2) nd rfl (Or.inl rfl) (pe_lst (pa_cons (pe_ix ix_tup (pv 1) pe_int (fun _ _ => rfl)) pa_nil)))
      (pss_cons (ps_for PassesOwn.never rfl (pi_tup (pe_slice sl_tupA (pv 1) (po_some pe_int) po_none)) (pg_name (i := 3) nd rfl (Or.inr rfl)) 
        (pss_one (ps_set (i := 2) nd rfl (Or.inl rfl) (bB (cr_sortedM rfl hr.units) T.n_sorted (pa_cons (pe_sc2 (own := [("person", 4), ("other", 5)]) (vs1 := [5]) rfl nd (pi_list (pv 2)) (blkOk_by (N := NN_persons_in) (sc := defScope s_persons_in) (by decide +kernel)) (by decide) (fun _ _ _ _ _ => (pg_name (i := 4) nd rfl (Or.inl rfl))) (fun _ _ _ _ _ => pts_nil) (fun _ _ _ _ _ => (show PI _ _ _ (iTup K _) from (pi_tup (pe_dget2 hu (pv 0) (pe_tup (pa_cons (pv 4) (pa_cons (pv 3) pa_nil))) (pe_tup pa_nil) ⟨by rfl, by rfl, by rfl, by rfl⟩)))) (fun _ _ _ _ _ => (pg_name (i := 5) nd rfl (Or.inl rfl))) (fun _ _ _ _ _ => pts_nil) (fun _ _ _ _ _ => (pv 5))) pa_nil)))))
      (pss_one (ps_ret (bT call_tuple_of T.n_tuple (pa_cons (pv 2) pa_nil)))))), ?_⟩
    walk_at "go"
    cases c with
    | nil => exact absurd rfl hc
    | cons p0 ns =>
      refine ⟨r, _, _, _, rfl, rfl, hrow, (show atI ((p0 :: ns).map V.str) 0 = some (.str p0) from at_nat (Int.le_refl 0) rfl), ?_⟩
      walk_at "go"
      refine ⟨by show 1 ≤ sizeLine; decide, fun q nq => kNew nq fun H1 s1 hq => ?_⟩
      walk_at "go"
      refine ⟨r, _, rfl, sq_t s1 hrow, fun h => absurd h tail_new, fun _ pn np => kNew np fun H2 s2 hpn => ?_⟩
      rw [List.map_cons, cut_tail] at hpn
      walk_at "go"
      have s02 := s1.trans s2
      refine ⟨⟨_, st_of hpn⟩, for_it (walk_tup (xs := ns.map V.str)) (fun i σ H' => ∃ (qh : Addr) (zs : List Str) (o1 o2 o3 : Option V), σ = [some (.ref a), some (.ref r), some (.ref qh), o1, o2, o3] ∧ Same H2 H' ∧
          H' qh = some (.lst (zs.map V.str)) ∧ AscS zs ∧ (∀ x ∈ zs, x ∈ p0 :: U) ∧ ∀ x, x ∈ zs ↔ Reach (RelT rs) p0 (ns.take i) x)
        ⟨q, [p0], none, none, none, rfl, Same.refl _, s2 _ _ hq, List.pairwise_singleton _ _, fun x hx => by rw [List.mem_singleton.mp hx]; exact List.mem_cons_self, fun x => by rw [List.mem_singleton]; exact Iff.rfl⟩ (fun i σ H' _ ⟨qh, zs, _, _, _, _, s, _⟩ => st_of (s _ _ hpn)) ?_ ?_⟩
      · rintro i x σ _ H3 hi ⟨qh, zs, o1, o2, o3, rfl, s3, hqh, az, subz, mz⟩ ⟨rfl, hx⟩
        rw [List.getElem?_map] at hx
        obtain ⟨n, hn, rfl⟩ := Option.map_eq_some_iff.mp hx
        have s03 := s02.trans s3
        walk_at "go"
        refine ⟨⟨_, sq_of hqh⟩, fun D nD => ?_⟩
        have nqD : qh ≠ D := ne_of_none hqh nD
        refine sc2_list (xs := zs.map V.str) (fun m H' => But D H3 H' ∧ ∃ L, H' D = some (SetM w D L) ∧ Coll U L (fun x => ∃ p ∈ zs.take m, RelT rs p n x)) ⟨upd_but, [], upd_same, Coll.nil.as fun y => by simp⟩ (fun m H' ⟨w, _⟩ => sq_of (w _ _ nqD hqh)) ?_ ?_
        · rintro m y H4 hy ⟨w4, L, hD, C⟩
          rw [List.getElem?_map] at hy
          obtain ⟨p, hp, rfl⟩ := Option.map_eq_some_iff.mp hy
          have s34 : Same H3 H4 := But.new (Same.refl H3) w4 nD
          have s04 := s03.trans s34
          refine ⟨rfl, ?_⟩
          walk_at "go"
          have tab4 := tab.same s04
          refine ⟨.inr ⟨_, .inl tab4.at_⟩, ?_⟩
          walk_at "go"
          refine ⟨by show 2 ≤ sizeLine; decide, fun b nb => kNew nb fun H5 s5 hb => ?_⟩
          walk_at "go"
          refine ⟨by show 0 ≤ sizeLine; decide, fun e ne => kNew ne fun H6 s6 he => ?_⟩
          have tab6 := (tab4.same s5).same s6
          obtain ⟨va, vals, ev, hva, mv, av, sv⟩ := tab6.get (e := e) (show Sq K true H6 e [] from st_of he) (p, n)
          have hva : SqT K H6 va (vals.map V.str) := hva
          refine ⟨_, DGet.t tab6.at_ (show H6 b = some (.tup ((pk (p, n)).map kV)) from s6 _ _ hb), ?_⟩
          rw [ev]
          have hD6 := s6 _ _ (s5 _ _ hD)
          have tk : zs.take (m + 1) = zs.take m ++ [p] := by rw [List.take_add_one, hp, Option.toList_some]
          refine ⟨va, rfl, ⟨_, hva⟩, in_tup (xs := vals.map V.str) (fun j H' => But D H6 H' ∧ ∃ L, H' D = some (SetM w D L) ∧ Coll U L (fun x => (∃ p ∈ zs.take m, RelT rs p n x) ∨ x ∈ vals.take j)) ⟨But.refl _ _, L, hD6, C.as fun y => by simp⟩ (fun j H' ⟨w, _⟩ => bt_t w hD6 rfl hva) ?_ ?_⟩
          · rintro j y H7 hy ⟨w7, L7, hD7, C7⟩
            rw [List.getElem?_map] at hy
            obtain ⟨x, hx, rfl⟩ := Option.map_eq_some_iff.mp hy
            refine ⟨rfl, ?_⟩
            walk_at "go"
            refine ⟨.inr x, L7, rfl, hD7, C7.room hU, w7.trans upd_but, _, upd_same, C7.add (sv x (List.mem_of_getElem? hx)) fun y => ?_⟩
            rw [List.take_add_one, hx, Option.toList_some, List.mem_append, List.mem_singleton, or_assoc]
          · rintro H7 ⟨w7, L7, hD7, C7⟩
            rw [List.length_map, List.take_length] at C7
            refine ⟨(w4.same (s5.trans s6)).trans w7, L7, hD7, C7.as fun x => ?_⟩
            rw [tk, mv x]
            constructor
            · rintro ⟨p', hp', h⟩
              rcases List.mem_append.mp hp' with hp' | hp'
              · exact .inl ⟨p', hp', h⟩
              · rw [List.mem_singleton.mp hp'] at h
                exact .inr h
            · rintro (⟨p', hp', h⟩ | h)
              · exact ⟨p', List.mem_append_left _ hp', h⟩
              · exact ⟨p, List.mem_append_right _ List.mem_cons_self, h⟩
        · rintro H4 ⟨w4, L, hD, C⟩
          rw [List.length_map, List.take_length] at C
          have s34 : Same H3 H4 := But.new (Same.refl H3) w4 nD
          walk_at "go"
          refine ⟨D, L, rfl, hD, fun key hk => ?_, fun ys l2 asy mem len nl2 => kNew nl2 fun H5 s5 hl2 => ?_⟩
          · obtain ⟨x, _, rfl⟩ := C.sub key hk
            exact ⟨x, rfl⟩
          walk_at "go"
          refine ⟨l2, ys, _, _, _, rfl, s3.trans (s34.trans s5), hl2, asy, fun x hx => ?_, fun x => ?_⟩
          · obtain ⟨z, hz, e⟩ := C.sub _ ((mem x).mp hx)
            cases e
            exact List.mem_cons_of_mem _ hz
          · rw [mem, C.mem, List.take_add_one, hn, Option.toList_some, Reach.snoc]
            exact ⟨fun ⟨p, hp, h⟩ => ⟨p, (mz p).mp hp, h⟩, fun ⟨p, hp, h⟩ => ⟨p, (mz p).mpr hp, h⟩⟩
      · rintro σ H3 ⟨qh, zs, o1, o2, o3, rfl, s3, hqh, az, subz, mz⟩
        rw [List.length_map, List.take_length] at mz
        have lz := nd_le az.nodup subz
        rw [List.length_cons] at lz
        walk_at "go"
        exact ⟨qh, _, rfl, .inl ⟨sq_of hqh, fun l nl => kNew nl fun H4 s4 hl => k l zs H4 ((s02.trans s3).trans s4) (st_of hl) az mz⟩⟩
end
end NC
-- NcNamed
set_option Elab.async false
set_option linter.all false
set_option maxRecDepth 100000
set_option maxHeartbeats 4000000
/-! The namings of a book, by the pair that they name. -/
namespace NC
open PySem PySem.Spec PyProof.Rows L2 PySem.W
structure Grp where
  key : Str × Str
  at_ : Addr
  ns : List (Nam Str)
def dNam (n : Nam Str) : PyData := .tuple [.int (n.ix : Int), dChain n.chain]
def grpKV (g : Grp) : List Key × V := (pk g.key, V.ref g.at_)
structure NamedG (K : PySem.W.Frag) (H : Hp) (gs : List Grp) (ms : List (Nam Str)) : Prop where
  val : ∀ g ∈ gs, Dp K H (.ref g.at_) (.tuple (g.ns.map dNam))
  nd : (gs.map (·.key)).Nodup
  own : ∀ g ∈ gs, ∀ n ∈ g.ns, (n.who, n.word) = g.key
  all : ∀ n, n ∈ ms ↔ ∃ g ∈ gs, n ∈ g.ns
  ne : ∀ g ∈ gs, g.ns ≠ []
  chn : ∀ n ∈ ms, n.chain ≠ [] ∧ n.chain.length ≤ 20
  lg : gs.length ≤ 24
  ln : ∀ g ∈ gs, g.ns.length ≤ 24
structure NamedT (K : PySem.W.Frag) (H : Hp) (a : Addr) (gs : List Grp) (ms : List (Nam Str)) : Prop where
  at_ : H a = some (.dT (gs.map grpKV))
  g : NamedG K H gs ms
theorem NamedG.same {K : PySem.W.Frag} {H H' : Hp} {gs : List Grp} {ms : List (Nam Str)} (s : Same H H') (h : NamedG K H gs ms) : NamedG K H' gs ms := { h with val := fun g hg => dp_same s _ _ (h.val g hg) }
theorem NamedT.same {K : PySem.W.Frag} {H H' : Hp} {a : Addr} {gs : List Grp} {ms : List (Nam Str)} (s : Same H H') (h : NamedT K H a gs ms) : NamedT K H' a gs ms := ⟨s _ _ h.at_, h.g.same s⟩
theorem dp_namrow {K : PySem.W.Frag} {H : Hp} {v : V} {n : Nam Str} (h : Dp K H v (dNam n)) : ∃ p pc, v = .ref p ∧ SqT K H p [.int (n.ix : Int), .ref pc] ∧ SqT K H pc (n.chain.map V.str) := by
  unfold dNam at h
  cases h with
  | tup h1 h2 =>
    cases h2 with
    | cons a1 h2 =>
      cases h2 with
      | cons a2 h2 =>
        cases h2
        cases a1
        obtain ⟨pc, rfl, q⟩ := dp_chain a2
        exact ⟨_, pc, rfl, h1, q⟩
theorem dp_rows {K : PySem.W.Frag} {H : Hp} {a : Addr} {ns : List (Nam Str)} (h : Dp K H (.ref a) (.tuple (ns.map dNam))) : ∃ us, SqT K H a us ∧ DpAll K H us (ns.map dNam) := by
  cases h with
  | tup h1 h2 => exact ⟨_, h1, h2⟩
theorem noList_strs : ∀ c : List Str, noListAll (c.map PyData.str) = true
  | [] => rfl
  | x :: c => noList_strs c
theorem noList_nams : ∀ ns : List (Nam Str), noListAll (ns.map dNam) = true
  | [] => rfl
  | n :: ns => by
    rw [List.map_cons]
    show (noList (dNam n) && noListAll (ns.map dNam)) = true
    rw [noList_nams ns, Bool.and_true]
    show (noList (.int (n.ix : Int)) && (noList (dChain n.chain) && true)) = true
    have : noList (dChain n.chain) = true := noList_strs n.chain
    rw [this]
    rfl
theorem NamedG.butF {K : PySem.W.Frag} {p : Addr} {o : HO} {H H' : Hp} {gs : List Grp} {ms : List (Nam Str)} (w : But p H H') (hp : H p = some o) (ho : Imm o = false) (h : NamedG K H gs ms) : NamedG K H' gs ms := { h with val := fun g hg => dp_butF w hp ho _ _ (noList_nams g.ns) (h.val g hg) }
theorem key_inj {α β : Type} {f : α → β} : ∀ {l : List α}, (l.map f).Nodup → ∀ {a b : α}, a ∈ l → b ∈ l → f a = f b → a = b
  | x :: l, nd, a, b, ha, hb, e => by
    rw [List.map_cons, List.nodup_cons] at nd
    rcases List.mem_cons.mp ha with ea | ha
    · rcases List.mem_cons.mp hb with eb | hb
      · rw [ea, eb]
      · rw [ea] at e
        exact absurd (List.mem_map.mpr ⟨b, hb, e.symm⟩) nd.1
    · rcases List.mem_cons.mp hb with eb | hb
      · rw [eb] at e
        exact absurd (List.mem_map.mpr ⟨a, ha, e⟩) nd.1
      · exact key_inj nd.2 ha hb e
theorem sub_of_len {α : Type} [DecidableEq α] {l m : List α} (nd : l.Nodup) (h : ∀ x ∈ l, x ∈ m) (len : m.length ≤ l.length) {x : α} (hx : x ∈ m) : x ∈ l := Classical.byContradiction fun z => by
  have := nd_le (l := x :: l) (m := m) (List.nodup_cons.mpr ⟨z, nd⟩) fun y hy => by
    rcases List.mem_cons.mp hy with rfl | hy
    · exact hx
    · exact h y hy
  rw [List.length_cons] at this
  omega
theorem valV_key {rs : List Row} (nd : (rs.map (·.key)).Nodup) {r : Row} (h : r ∈ rs) : valV (rs.map rowKV) (pk r.key) = some (.ref r.at_) := by
  rw [valV_rows]
  generalize e : (rs.find? fun q => decide (q.key = r.key)) = o
  cases o with
  | none =>
    have := List.find?_eq_none.mp e r h
    simp at this
  | some r' =>
    have h1 := List.mem_of_find?_eq_some e
    have h2 : r'.key = r.key := by simpa using List.find?_some e
    rw [key_inj nd h1 h h2]
    rfl
theorem bt_frz {K : PySem.W.Frag} {p : Addr} {od : Obj} {kvs : List (List Key × V)} {H H' : Hp} {a : Addr} {xs : List V} (w : But p H H') (hp : H p = some (.frz od (.dT kvs))) (h : SqT K H a xs) : SqT K H' a xs := by
  rcases h with (h | ⟨o, h⟩) | h
  · exact .inl (.inl (w _ _ (fun z => by rw [z, hp] at h; cases h) h))
  · exact .inl (.inr ⟨o, w _ _ (fun z => by rw [z, hp] at h; cases h) h⟩)
  · exact .inr h
theorem Tab.butFrz {K : PySem.W.Frag} {U : List Str} {H H' : Hp} {a p : Addr} {od : Obj} {kvs : List (List Key × V)} {rs : List Row} (w : But p H H') (hp : H p = some (.frz od (.dT kvs))) (na : a ≠ p) (T : Tab K true U H a rs) : Tab K true U H' a rs :=
  ⟨w _ _ na T.at_, fun r hr => bt_frz w hp (T.val r hr), T.nd, T.asc, T.sub⟩
/-- over a list: a dict keyed by pairs that one clause makes -/
theorem dct_list {K : PySem.W.Frag} {a : Addr} {xs : List V} {g : TG} {tt : TT} {tk tv : TE} {vs : List Nat} {σ : L2.St} {H1 : Hp} {D : Addr} {Qd : Hp → Prop} (Pv : Nat → Hp → Prop) (h0 : Pv 0 (upd H1 D (.dT []))) (hl : ∀ i H, Pv i H → SqL K H a xs)
    (hs : ∀ i x H, xs[i]? = some x → Pv i H → g x (wipe σ vs) H fun σ2 H2 => wipe σ2 vs = wipe σ vs ∧ tt σ2 H2 fun b H3 => if b = true then tk σ2 H3 fun y H4 => tv σ2 H4 fun z H5 => ∃ (kvs : List (List Key × V)) (k : List Key) (q : Addr), y = .ref q ∧ H5 q = some (.tup (k.map kV)) ∧ H5 D = some (.dT kvs) ∧ kvs.length < sizeLine ∧ Pv (i + 1) (upd H5 D (.dT (putK kvs k z))) else Pv (i + 1) H3) (hd : ∀ H, Pv xs.length H → Qd H) :
    ∃ W : Nat → Nat → Hp → Prop, (∃ m, W 0 m (upd H1 D (.dT []))) ∧ ∀ i m H, W i m H →
      ((Itl K a).stop i H ∧ Qd H) ∨ ((Itl K a).go i H ∧ ∃ Nx : Hp → Prop, (∀ H', Nx H' → ∃ m', m' < m ∧ W (i + 1) m' H') ∧ ∀ x H', (Itl K a).yld i H x H' → g x (wipe σ vs) H' fun σ2 H2 => wipe σ2 vs = wipe σ vs ∧ tt σ2 H2 fun b H3 =>
        if b = true then tk σ2 H3 fun y H4 => tv σ2 H4 fun z H5 => ∃ (kvs : List (List Key × V)) (k : List Key) (q : Addr), y = .ref q ∧ H5 q = some (.tup (k.map kV)) ∧ H5 D = some (.dT kvs) ∧ kvs.length < sizeLine ∧ Nx (upd H5 D (.dT (putK kvs k z))) else Nx H3) := by
  refine ⟨fun i m H => m + i = xs.length ∧ Pv i H, ⟨xs.length, rfl, h0⟩, ?_⟩
  rintro i m H ⟨hm, p⟩
  have q := hl i H p
  by_cases hlt : i < xs.length
  · refine .inr ⟨⟨xs, xs[i], q, List.getElem?_eq_getElem hlt⟩, Pv (i + 1), fun H' p' => ⟨m - 1, by omega, by omega, p'⟩, fun x H' y => ?_⟩
    obtain ⟨rfl, y⟩ := y
    exact hs i x _ (y xs q) p
  · obtain rfl : i = xs.length := by omega
    exact .inl ⟨⟨xs, q, Nat.le_refl _⟩, hd H p⟩
/-- in order and none twice: strictly in order -/
theorem str_tot {a b : Str} (h : DatumOrd.lt b a = false) (ne : a ≠ b) : DatumOrd.lt a b = true := by
  have h1 : ¬ b.cps.toList < a.cps.toList := of_decide_eq_false h
  refine decide_eq_true (p := a.cps.toList < b.cps.toList) ?_
  rcases Std.lt_trichotomy a.cps.toList b.cps.toList with z | z | z
  · exact z
  · exact absurd (str_ext z) ne
  · exact absurd z h1
theorem up_pairs {ks : List (Str × Str)} (h : Up ks) (nd : ks.Nodup) : ks.Pairwise (fun a b => DatumOrd.lt a b = true) := by
  unfold Up List.Nodup at *
  refine (h.and nd).imp fun {a b} ⟨h1, h2⟩ => ?_
  have h1 : (if b.1 = a.1 then DatumOrd.lt b.2 a.2 else DatumOrd.lt b.1 a.1) = false := h1
  show (if a.1 = b.1 then DatumOrd.lt a.2 b.2 else DatumOrd.lt a.1 b.1) = true
  by_cases e : a.1 = b.1
  · rw [if_pos e.symm] at h1
    rw [if_pos e]
    exact str_tot h1 fun z => h2 (Prod.ext e z)
  · rw [if_neg (Ne.symm e)] at h1
    rw [if_neg e]
    exact str_tot h1 e
end NC
-- NcP2
set_option Elab.async false
set_option linter.all false
set_option maxRecDepth 100000
set_option maxHeartbeats 4000000
namespace NC
local macro_rules | `(tactic| walk_at "go") => `(tactic| (repeat (first
  | (refine ⟨_, rfl, ?_⟩)
  | (refine ⟨_, _, rfl, rfl, ?_⟩)
  | (refine ⟨_, _, rfl, ?_⟩)
  | (refine ⟨_, _, _, rfl, ?_⟩)
  | (refine Or.inl ⟨_, rfl, ?_⟩)
  | (refine iteT ?_)
  | (refine iteF ?_))))
open PySem PySem.Spec PyProof.Rows L2 PySem.W
def spTable (K : PySem.W.Frag) : Sp := fun vs H Q _ => ∃ (d : Addr) (gs : List Grp) (ms : List (Nam Str)) (U : List Str), vs = [.ref d] ∧ NamedT K H d gs ms ∧ U.length ≤ 40 ∧ (∀ n ∈ ms, ∀ p r, n.chain = p :: r → p ∈ U) ∧
  ∀ q rs H', Same H H' → H q = none → Tab K true U H' q rs → (∀ p n x, RelT rs p n x ↔ Lfp ms p n x) → (rs.map (·.key)).Pairwise (fun a b => DatumOrd.lt a b = true) → (∀ r ∈ rs, r.vals ≠ []) → rs.length ≤ 24 → (∀ r ∈ rs, ∃ n ∈ ms, r.key = (n.who, n.word)) → Q (.ref q) H'
/-- what the table under way keeps -/
structure TInv (K : PySem.W.Frag) (U : List Str) (ms : List (Nam Str)) (gs : List Grp) (q : Addr) (rs : List Row) (H : Hp) : Prop where
  tab : Tab K true U H q rs
  snd : ∀ p n x, RelT rs p n x → Lfp ms p n x
  sup : ∀ r ∈ rs, ∃ g ∈ gs, g.key = r.key ∧ ∀ x ∈ r.vals, ∃ n ∈ g.ns, ReachC (RelT rs) n.chain x
  ne : ∀ r ∈ rs, r.vals ≠ []
abbrev NN_table_from : List Str := ["named", "table", "is_changed", "pair", "rows", "found", "place", "chain", "person"]
theorem sc_table_from : FnScope NN_table_from ["named"] (defScope s_table_from) := ⟨rfl, rfl, rfl, by decide +kernel, rfl, by decide +kernel, by decide +kernel⟩
section
variable {P : Program} {w : World} {K : PySem.W.Frag} {mg : Str → Option Value} {base : Heap}
-- 0 named; 1 table; 2 is_changed; 3 pair; 4 rows; 5 found; 6 place; 7 chain; 8 person
theorem cal_table_from (T : Txt K mg) : Cal P w K mg base 2 "table_from" (spTable K) := by
  have c_persons_in : Cal P w K mg base 1 "persons_in" (spPersons K) := cal_persons_in T
  refine cal_of T.f_table_from T.g_table_from sc_table_from (fun vs H Q E h => ?_) (fun _ _ _ _ _ _ us hl => match us, hl with | [_], _ => rfl) (fun cdv A outer s H vs Q E hr h => ?_)
  · obtain ⟨d, gs, ms, U, rfl, _⟩ := h
    rfl
  · obtain ⟨d, gs, ms, U, rfl, N, hU, hd, k⟩ := h
    have nd := sc_table_from.nd
    have hu := hu_of hr
    refine ⟨_, 
      (pss_cons (ps_asg (pe_tup (pa_cons pe_dnewT (pa_cons pe_bl pa_nil))) (pg_tup rfl (pgs_cons (pg_name (i := 1) nd rfl (Or.inr rfl)) (pgs_cons (pg_name (i := 2) nd rfl (Or.inl rfl)) pgs_nil))))
      (pss_cons (ps_while PassesOwn.never (pt_val (pv 2)) 
        (pss_cons (ps_set (i := 2) nd rfl (Or.inl rfl) pe_bl)
        (pss_one (ps_lock (ps_for PassesOwn.never rfl (pi_itemsT (pv 0)) (pg_tup rfl (pgs_cons (pg_name (i := 3) nd rfl (Or.inl rfl)) (pgs_cons (pg_name (i := 4) nd rfl (Or.inl rfl)) pgs_nil))) 
          (pss_cons (ps_set (i := 5) nd rfl (Or.inl rfl) (bB (cr_sortedM rfl hr.units) T.n_sorted (pa_cons (pe_sc2 (own := [("place", 6), ("chain", 7), ("person", 8)]) (vs1 := [8]) rfl nd (pi_tup (pv 4)) (blkOk_by (N := NN_table_from) (sc := defScope s_table_from) (by decide +kernel)) (by decide) (fun _ _ _ _ _ => (show PG _ _ (gTup K 2 _) from (pg_tup rfl (pgs_cons (pg_name (i := 6) nd rfl (Or.inl rfl)) (pgs_cons (pg_name (i := 7) nd rfl (Or.inl rfl)) pgs_nil))))) (fun _ _ _ _ _ => pts_nil) (fun _ _ _ _ _ => (show PI _ _ _ (iTup K _) from (pi_tup (pe_c c_persons_in hr (by rfl) (pa_cons (pv 1) (pa_cons (pv 7) pa_nil)))))) (fun _ _ _ _ _ => (pg_name (i := 8) nd rfl (Or.inl rfl))) (fun _ _ _ _ _ => pts_nil) (fun _ _ _ _ _ => (pv 8))) pa_nil)))
          (pss_one (ps_if (pt_cmpR op_gt (bB call_len T.n_len (pa_cons (pv 5) pa_nil)) (bB call_len T.n_len (pa_cons (pe_dget2 hu (pv 1) (pv 3) (pe_tup pa_nil) ⟨by rfl, by rfl, by rfl, by rfl⟩) pa_nil)) (nomark _)) 
            (pss_cons (ps_dput hu (pv 1) (pv 3) (bT call_tuple_of T.n_tuple (pa_cons (pv 5) pa_nil)) rfl)
            (pss_one (ps_set (i := 2) nd rfl (Or.inl rfl) pe_bl))) pss_nil))))))))
      (pss_one (ps_ret (pe_dcT (own := [("pair", 3)]) rfl nd (pi_list (bB (cr_sortedP2 rfl hr.units) T.n_sorted (pa_cons (pv 1) pa_nil))) (blkOk_by (N := NN_table_from) (sc := defScope s_table_from) (by decide +kernel)) (fun _ _ _ _ _ => (pg_name (i := 3) nd rfl (Or.inl rfl))) (fun _ _ _ _ _ => pts_nil) (fun _ _ _ _ _ => (pv 3)) (fun _ _ _ _ _ => (pe_dget hu (pv 1) (pv 3) (fun _ _ => rfl))) hu))))), ?_⟩
    walk_at "go"
    refine (fun q nq => kNew nq fun H1 s1 hq => ?_)
    walk_at "go"
    refine ⟨by show 2 ≤ sizeLine; decide, fun tp ntp => kNew ntp fun H2 s2 htp => ?_⟩
    walk_at "go"
    refine ⟨tp, _, rfl, st_of htp, rfl, ?_⟩
    refine ⟨_, _, rfl, ?_⟩
    refine ⟨_, _, rfl, ?_⟩
    refine ⟨rfl, ?_⟩
    walk_at "go"
    have s02 := s1.trans s2
    have hq := s2 _ _ hq
    have nqd : q ≠ d := fun z => by rw [z, N.at_] at nq; cases nq
    have tb : ∀ {rs : List Row} {H' : Hp}, Tab K true U H' q rs → (∀ r ∈ rs, ∃ g ∈ gs, g.key = r.key ∧ ∀ x ∈ r.vals, ∃ n ∈ g.ns, ReachC (RelT rs) n.chain x) → rs.length ≤ 24 ∧ total rs ≤ 960 := fun {rs H'} tab hk => by
      have h1 := total_le (rs := rs) (m := U.length) fun r hr => tab.len hr
      have h2 : rs.length ≤ gs.length := by
        have z := nd_le (l := rs.map (·.key)) (m := gs.map (·.key)) tab.nd fun y hy => by
          obtain ⟨r, hr, rfl⟩ := List.mem_map.mp hy
          obtain ⟨g, hg, e, _⟩ := hk r hr
          exact List.mem_map.mpr ⟨g, hg, e⟩
        rwa [List.length_map, List.length_map] at z
      have h3 := N.g.lg
      have h4 : rs.length * U.length ≤ 24 * 40 := Nat.mul_le_mul (by omega) hU
      omega
    refine ⟨fun m σ H' => ∃ (rs : List Row) (ch : Bool) (o3 o4 o5 o6 o7 o8 : Option V), σ = [some (.ref d), some (.ref q), some (.bl ch), o3, o4, o5, o6, o7, o8] ∧ But q H2 H' ∧ TInv K U ms gs q rs H' ∧ (ch = false → Closed ms (RelT rs)) ∧ m + total rs = 961 + (if ch = true then 1 else 0),
      ⟨962, [], true, none, none, none, none, none, none, rfl, But.refl _ _, ⟨tab_nil hq, fun p n x h => by obtain ⟨r, hr, _⟩ := h; simp at hr, by simp, by simp⟩, by simp, rfl⟩, ?_⟩
    rintro m σ H3 ⟨rs, ch, o3, o4, o5, o6, o7, o8, rfl, w3, inv3, cl3, hm⟩
    walk_at "go"
    cases ch with
    | false =>
      refine iteN rfl ?_
      walk_at "go"
      have s03 : Same H H3 := But.new s02 w3 nq
      obtain ⟨tab, snd, sup, nev⟩ := inv3
      obtain ⟨l24, _⟩ := tb tab sup
      refine ⟨q, rs.map rowKV, rs.map (·.key), rfl, .inl tab.at_, by rw [List.map_map, List.map_map]; rfl, fun rows l pm up hrows nl => kNew nl fun H4 s4 hl => ?_⟩
      walk_at "go"
      refine ⟨⟨_, sq_of hl⟩, fun D nD => ?_⟩
      have nlD : l ≠ D := ne_of_none hl nD
      have tab4 := tab.same s4
      have kn : (rows.map (·.2)).Nodup := pm.nodup_iff.mpr tab.nd
      have lr : rows.length = rs.length := by
        have z := pm.length_eq
        rwa [List.length_map, List.length_map] at z
      refine dct_list (xs := rows.map fun r => .ref r.1) (fun i H' => But D H4 H' ∧ ∃ rs', Tab K true U H' D rs' ∧ rs'.map (·.key) = (rows.take i).map (·.2) ∧ ∀ r ∈ rs', r ∈ rs) ⟨upd_but, [], tab_nil upd_same, by simp, by simp⟩ (fun i H' ⟨w, _⟩ => sq_of (w _ _ nlD hl)) ?_ ?_
      · rintro i x H5 hx ⟨w5, rs', tab', hk, hm'⟩
        rw [List.getElem?_map] at hx
        obtain ⟨⟨ad, pr⟩, hrow, rfl⟩ := Option.map_eq_some_iff.mp hx
        have s45 : Same H4 H5 := But.new (Same.refl H4) w5 nD
        have hpr : H5 ad = some (.tup ((pk pr).map kV)) := (s4.trans s45) _ _ (hrows _ (List.mem_of_getElem? hrow))
        have tab5 := tab4.same s45
        obtain ⟨r, hr1, rfl⟩ : ∃ r ∈ rs, r.key = pr := List.mem_map.mp (pm.mem_iff.mp (List.mem_map.mpr ⟨_, List.mem_of_getElem? hrow, rfl⟩))
        refine ⟨rfl, ?_⟩
        walk_at "go"
        have lr' : rs'.length ≤ 24 := by
          have z := congrArg List.length hk
          rw [List.length_map, List.length_map, List.length_take] at z
          omega
        have fr : ∀ z ∈ rs', z.key ≠ r.key := fun z hz e => by
          have h1 : r.key ∈ (rows.take i).map (·.2) := by rw [← hk]; exact List.mem_map.mpr ⟨z, hz, e⟩
          have h2 : rows.map (·.2) = (rows.take i).map (·.2) ++ (rows.drop i).map (·.2) := by rw [← List.map_append, List.take_append_drop]
          rw [h2] at kn
          have h3 : r.key ∈ (rows.drop i).map (·.2) := List.mem_map.mpr ⟨_, List.mem_of_getElem? (show (rows.drop i)[0]? = some (ad, r.key) by rw [List.getElem?_drop]; exact hrow), rfl⟩
          exact (List.nodup_append.mp kn).2.2 _ h1 _ h3 rfl
        refine ⟨q, _, rfl, .inr ⟨_, _, _, .inl tab5.at_, rfl, hpr, (valV_key tab.nd hr1).symm⟩, ?_⟩
        refine ⟨_, _, ad, rfl, hpr, tab'.at_, sz_lt (by rw [List.length_map]; omega), w5.trans upd_but, putR rs' r, ?_, ?_, ?_⟩
        · refine tab'.put upd_but (by rw [putK_rows rs' r]; exact upd_same) ?_ (tab.asc r hr1) (tab.sub r hr1)
          exact bt_t upd_but tab'.at_ rfl (tab5.val r hr1)
        · rw [putR_keys, if_neg (fun z => by obtain ⟨y, hy, e⟩ := hasR_iff.mp z; exact fr y hy e), hk, List.take_add_one, hrow, Option.toList_some, List.map_append]
          rfl
        · intro y hy
          rcases mem_putR hy with rfl | ⟨h1, _⟩
          · exact hr1
          · exact hm' y h1
      · rintro H5 ⟨w5, rs', tab', hk, hm'⟩
        rw [List.length_map, List.take_length] at hk
        have s45 : Same H4 H5 := But.new (Same.refl H4) w5 nD
        have nD0 : H D = none := by
          cases e : H D with
          | none => rfl
          | some o => rw [(s03.trans s4) _ _ e] at nD; cases nD
        have rel : ∀ p n x, RelT rs' p n x ↔ RelT rs p n x := fun p n x => ⟨fun ⟨r, h1, h2, h3⟩ => ⟨r, hm' r h1, h2, h3⟩, fun ⟨r, h1, h2, h3⟩ => by
          have z : r.key ∈ rs'.map (·.key) := by rw [hk]; exact pm.mem_iff.mpr (List.mem_map.mpr ⟨r, h1, rfl⟩)
          obtain ⟨r', h4, h5⟩ := List.mem_map.mp z
          rw [key_inj tab.nd (hm' r' h4) h1 h5] at h4
          exact ⟨r, h4, h2, h3⟩⟩
        refine k D rs' H5 ((s03.trans s4).trans s45) nD0 tab' (fun p n x => (rel p n x).trans (Lfp.iff (cl3 rfl) snd p n x)) ?_ (fun r hr => nev r (hm' r hr)) ?_ fun r hr => ?_
        · rw [hk]
          exact up_pairs up kn
        · have z := congrArg List.length hk
          rw [List.length_map, List.length_map] at z
          omega
        · obtain ⟨g, hg, e, h⟩ := sup r (hm' r hr)
          obtain ⟨x, hx⟩ := List.exists_mem_of_ne_nil _ (nev r (hm' r hr))
          obtain ⟨n, hn, _⟩ := h x hx
          exact ⟨n, (N.g.all n).mpr ⟨g, hg, hn⟩, by rw [← e]; exact (N.g.own g hg n hn).symm⟩
    | true =>
      refine iteK rfl ?_
      refine ⟨fun σ' H' => ∃ m', m' < m ∧ ∃ (rs : List Row) (ch : Bool) (o3 o4 o5 o6 o7 o8 : Option V), σ' = [some (.ref d), some (.ref q), some (.bl ch), o3, o4, o5, o6, o7, o8] ∧ But q H2 H' ∧ TInv K U ms gs q rs H' ∧ (ch = false → Closed ms (RelT rs)) ∧ m' + total rs = 961 + (if ch = true then 1 else 0), fun σ' H' z => z, ?_⟩
      walk_at "go"
      have s03 : Same H H3 := But.new s02 w3 nq
      have hd3 := s03 _ _ N.at_
      refine ⟨d, .dT (gs.map grpKV), hd3, trivial, fun od => ?_⟩
      obtain ⟨H3', eH⟩ : ∃ H3', upd H3 d (.frz od (.dT (gs.map grpKV))) = H3' := ⟨_, rfl⟩
      have wd : But d H3 H3' := by rw [← eH]; exact upd_but
      have hd3' : H3' d = some (.frz od (.dT (gs.map grpKV))) := by rw [← eH]; exact upd_same
      rw [eH]
      have inv3' : TInv K U ms gs q rs H3' := ⟨inv3.tab.but wd hd3 rfl nqd (fun z => nomatch z), inv3.snd, inv3.sup, inv3.ne⟩
      have N3 : NamedG K H3' gs ms := (N.g.same s03).butF wd hd3 rfl
      walk_at "go"
      refine ⟨d, od, _, rfl, hd3', for_itemsT (fun i σ H' => ∃ (rs' : List Row) (ch : Bool) (o3 o4 o5 o6 o7 o8 : Option V), σ = [some (.ref d), some (.ref q), some (.bl ch), o3, o4, o5, o6, o7, o8] ∧ But q H3' H' ∧ TInv K U ms gs q rs' H' ∧
          (ch = false → rs' = rs ∧ ∀ g ∈ gs.take i, ∀ n ∈ g.ns, ∀ x, ReachC (RelT rs) n.chain x → RelT rs n.who n.word x) ∧ (ch = true → total rs < total rs'))
        ⟨rs, false, _, _, _, _, _, _, rfl, But.refl _ _, inv3', fun _ => ⟨rfl, by simp⟩, fun z => (nomatch z)⟩ (fun i σ H' ⟨_, _, _, _, _, _, _, _, _, w, _⟩ => w _ _ (Ne.symm nqd) hd3') ?_ ?_⟩
      · rintro i kk v qk T' σ H4 H5 hkv hqk ⟨rs4, ch, o3, o4, o5, o6, o7, o8, rfl, w4, inv4, cl4, tot4⟩ s5 nT hT
        rw [List.getElem?_map] at hkv
        obtain ⟨g, hg, e⟩ := Option.map_eq_some_iff.mp hkv
        cases e
        have hgm := List.mem_of_getElem? hg
        refine ⟨T', _, rfl, st_of hT, rfl, ?_⟩
        refine ⟨_, _, rfl, ?_⟩
        refine ⟨_, _, rfl, ?_⟩
        refine ⟨rfl, ?_⟩
        walk_at "go"
        have N5 : NamedG K H5 gs ms := (N3.butF w4 inv3'.tab.at_ rfl).same s5
        obtain ⟨us, hus, hall⟩ := dp_rows (N5.val g hgm)
        have lus := dpAll_len hall
        have tab5 := inv4.tab.same s5
        refine ⟨⟨_, hus⟩, fun D nD => ?_⟩
        refine sc2_tup (xs := us) (fun m H' => But D H5 H' ∧ ∃ L, H' D = some (SetM w D L) ∧ Coll U L (fun x => ∃ n ∈ g.ns.take m, ReachC (RelT rs4) n.chain x)) ⟨upd_but, [], upd_same, Coll.nil.as fun y => by simp⟩ (fun m H' ⟨w, _⟩ => sq_t (But.new (Same.refl H5) w nD) hus) ?_ ?_
        · rintro j y H6 hy ⟨w6, L, hD, C⟩
          have s56 : Same H5 H6 := But.new (Same.refl H5) w6 nD
          have hj : j < us.length := (List.getElem?_eq_some_iff.mp hy).1
          have hn : g.ns[j]? = some (g.ns[j]'(by omega)) := List.getElem?_eq_getElem (by omega)
          generalize g.ns[j]'(by omega) = n at hn
          obtain ⟨v, hv, hdv⟩ := dpAll_at (dpAll_same s56 hall) hn
          rw [hy] at hv
          cases hv
          obtain ⟨p, pc, rfl, q1, q2⟩ := dp_namrow hdv
          have hnm : n ∈ ms := (N.g.all n).mpr ⟨g, hgm, List.mem_of_getElem? hn⟩
          obtain ⟨c1, c2⟩ := N.g.chn n hnm
          refine ⟨p, _, rfl, q1, rfl, ?_⟩
          refine ⟨_, _, rfl, ?_⟩
          refine ⟨_, _, rfl, ?_⟩
          refine ⟨rfl, ?_⟩
          refine ⟨rfl, ?_⟩
          walk_at "go"
          refine ⟨q, pc, rs4, U, n.chain, rfl, tab5.same s56, hU, q2, c1, c2, fun pl ys H7 s7 hpl ays mys => ?_⟩
          have hD7 := s7 _ _ hD
          have ndp : pl ≠ D → True := fun _ => trivial
          have tk : g.ns.take (j + 1) = g.ns.take j ++ [n] := by rw [List.take_add_one, hn, Option.toList_some]
          have subU : ∀ x ∈ ys, x ∈ U := fun x hxy => ReachC.last (T := RelT rs4) (U := fun x => x ∈ U) (fun p n x ⟨r, hr, _, hx⟩ => tab5.sub r hr x hx) n.chain x (hd n hnm) ((mys x).mp hxy)
          refine ⟨pl, rfl, ⟨_, hpl⟩, in_tup (xs := ys.map V.str) (fun m H' => But D H7 H' ∧ ∃ L, H' D = some (SetM w D L) ∧ Coll U L (fun x => (∃ n ∈ g.ns.take j, ReachC (RelT rs4) n.chain x) ∨ x ∈ ys.take m)) ⟨But.refl _ _, L, hD7, C.as fun y => by simp⟩ (fun m H' ⟨w, _⟩ => bt_t w hD7 rfl hpl) ?_ ?_⟩
          · rintro m y H8 hy ⟨w8, L8, hD8, C8⟩
            rw [List.getElem?_map] at hy
            obtain ⟨x, hx, rfl⟩ := Option.map_eq_some_iff.mp hy
            refine ⟨rfl, ?_⟩
            walk_at "go"
            refine ⟨.inr x, L8, rfl, hD8, C8.room hU, w8.trans upd_but, _, upd_same, C8.add (subU x (List.mem_of_getElem? hx)) fun y => ?_⟩
            rw [List.take_add_one, hx, Option.toList_some, List.mem_append, List.mem_singleton, or_assoc]
          · rintro H8 ⟨w8, L8, hD8, C8⟩
            rw [List.length_map, List.take_length] at C8
            refine ⟨(w6.same s7).trans w8, L8, hD8, C8.as fun x => ?_⟩
            rw [tk, mys x]
            constructor
            · rintro ⟨n', hn', h⟩
              rcases List.mem_append.mp hn' with hn' | hn'
              · exact .inl ⟨n', hn', h⟩
              · rw [List.mem_singleton.mp hn'] at h
                exact .inr h
            · rintro (⟨n', hn', h⟩ | h)
              · exact ⟨n', List.mem_append_left _ hn', h⟩
              · exact ⟨n, List.mem_append_right _ List.mem_cons_self, h⟩
        · rintro H6 ⟨w6, L, hD, C⟩
          rw [lus, List.take_length] at C
          have s56 : Same H5 H6 := But.new (Same.refl H5) w6 nD
          walk_at "go"
          refine ⟨D, L, rfl, hD, fun key hk => ?_, fun ys l2 asy mem len nl2 => kNew nl2 fun H7 s7 hl2 => ?_⟩
          · obtain ⟨x, _, rfl⟩ := C.sub key hk
            exact ⟨x, rfl⟩
          have my : ∀ x, x ∈ ys ↔ ∃ n ∈ g.ns, ReachC (RelT rs4) n.chain x := fun x => (mem x).trans (C.mem x)
          have syU : ∀ x ∈ ys, x ∈ U := fun x hx => by
            obtain ⟨z, hz, e⟩ := C.sub _ ((mem x).mp hx)
            cases e
            exact hz
          walk_at "go"
          have s57 := s56.trans s7
          have tab7 := tab5.same s57
          refine ⟨_, ys.length, rfl, .inl ⟨_, sq_of hl2, by rw [List.length_map]⟩, ?_⟩
          walk_at "go"
          refine ⟨.inr ⟨_, .inl tab7.at_⟩, ?_⟩
          walk_at "go"
          refine ⟨by show 0 ≤ sizeLine; decide, fun e ne => kNew ne fun H8 s8 he => ?_⟩
          have s58 := s57.trans s8
          have tab8 := tab7.same s8
          have hqk8 : H8 qk = some (.tup ((pk g.key).map kV)) := (s5.trans s58) _ _ hqk
          obtain ⟨va, vals, ev, hva, mv, av, sv⟩ := tab8.get (e := e) (show Sq K true H8 e [] from st_of he) g.key
          have hva : SqT K H8 va (vals.map V.str) := hva
          refine ⟨_, DGet.t tab8.at_ hqk8, ?_⟩
          rw [ev]
          walk_at "go"
          refine ⟨_, vals.length, rfl, .inr ⟨_, hva, by rw [List.length_map]⟩, ?_⟩
          walk_at "go"
          have old : ∀ r ∈ rs4, r.key = g.key → ∀ x ∈ r.vals, x ∈ ys := fun r hr hk x hx => by
            obtain ⟨g', hg', e1, h⟩ := inv4.sup r hr
            rw [key_inj N.g.nd hg' hgm (e1.trans hk)] at h
            exact (my x).mpr (h x hx)
          have old2 : ∀ x ∈ vals, x ∈ ys := fun x hx => by
            obtain ⟨r, hr, hk, hx⟩ := (mv x).mp hx
            exact old r hr hk x hx
          have snd5 : ∀ x ∈ ys, Lfp ms g.key.1 g.key.2 x := fun x hx => by
            obtain ⟨n, hn, h⟩ := (my x).mp hx
            have z := Lfp.closed ms n ((N.g.all n).mpr ⟨g, hgm, hn⟩) x (ReachC.mono inv4.snd _ _ h)
            have e := N.g.own g hgm n hn
            rw [← e]
            exact z
          refine iteD (fun hin => ?_) (fun hin => ?_)
          · have hlt : vals.length < ys.length := by omega
            walk_at "go"
            refine ⟨l2, _, rfl, .inl ⟨sq_of (s8 _ _ hl2), fun tv ntv => kNew ntv fun H9 s9 htv => ?_⟩⟩
            walk_at "go"
            have tab9 := tab8.same s9
            have lr4 := (tb tab9 inv4.sup).1
            refine ⟨q, _, rfl, DPut.t tab9.at_ (s9 _ _ hqk8) (sz_lt (by rw [List.length_map]; omega)), kPut fun H10 w10 h10 => ?_⟩
            rw [putK_rows rs4 ⟨g.key, tv, ys⟩] at h10
            have more : total rs4 < total (putR rs4 ⟨g.key, tv, ys⟩) := total_put tab9.nd (fun r hr hk => Nat.lt_of_le_of_lt (nd_le (tab9.asc r hr).nodup fun x hx => (mv x).mpr ⟨r, hr, hk, hx⟩) hlt) (by show 0 < ys.length; omega)
            have tot : total rs < total (putR rs4 ⟨g.key, tv, ys⟩) := by
              cases ch with
              | false => exact Nat.lt_of_le_of_lt (Nat.le_of_eq (by rw [(cl4 rfl).1])) more
              | true => exact Nat.lt_trans (tot4 rfl) more
            have mono : ∀ p n x, RelT rs4 p n x → RelT (putR rs4 ⟨g.key, tv, ys⟩) p n x := fun p n x => relT_mono fun r hr hk => old r hr hk
            walk_at "go"
            refine ⟨putR rs4 ⟨g.key, tv, ys⟩, true, _, _, _, _, _, _, rfl, (w4.same (s5.trans (s58.trans s9))).trans w10, ⟨tab9.put w10 h10 (bt_t w10 tab9.at_ rfl (st_of htv)) asy syU, fun p n x hz => ?_, fun r hr => ?_, fun r hr => ?_⟩, fun z => (nomatch z), fun _ => tot⟩
            · rcases relT_put.mp hz with ⟨hk, hx⟩ | ⟨_, h⟩
              · have := snd5 x hx
                have hk : g.key = (p, n) := hk
                rwa [hk] at this
              · exact inv4.snd _ _ _ h
            · rcases mem_putR hr with rfl | ⟨h1, _⟩
              · exact ⟨g, hgm, rfl, fun x hx => by
                  obtain ⟨n, hn, h⟩ := (my x).mp hx
                  exact ⟨n, hn, ReachC.mono mono _ _ h⟩⟩
              · obtain ⟨g', hg', e1, h⟩ := inv4.sup r h1
                exact ⟨g', hg', e1, fun x hx => by
                  obtain ⟨n, hn, h⟩ := h x hx
                  exact ⟨n, hn, ReachC.mono mono _ _ h⟩⟩
            · rcases mem_putR hr with rfl | ⟨h1, _⟩
              · intro (z : ys = [])
                rw [z] at hlt
                exact absurd hlt (Nat.not_lt_zero _)
              · exact inv4.ne r h1
          · walk_at "go"
            refine ⟨rs4, ch, _, _, _, _, _, _, rfl, w4.same (s5.trans s58), ⟨tab8, inv4.snd, inv4.sup, inv4.ne⟩, fun z => ?_, tot4⟩
            obtain ⟨e1, e2⟩ := cl4 z
            refine ⟨e1, fun g' hg' n hn x hx => ?_⟩
            rw [List.take_add_one, hg, Option.toList_some] at hg'
            rcases List.mem_append.mp hg' with hg' | hg'
            · exact e2 g' hg' n hn x hx
            · rw [List.mem_singleton.mp hg'] at hn
              rw [← e1] at hx ⊢
              have hy := (my x).mpr ⟨n, hn, hx⟩
              have z := (mv x).mp (sub_of_len av.nodup old2 (by omega) hy)
              rw [← N.g.own g hgm n hn] at z
              exact z
      · rintro σ H4 ⟨rs4, ch, o3, o4, o5, o6, o7, o8, rfl, w4, inv4, cl4, tot4⟩
        rw [List.length_map, List.take_length] at cl4
        have hd4 := w4 _ _ (Ne.symm nqd) hd3'
        have tl := (tb inv4.tab inv4.sup).2
        have hm : m + total rs = 962 := hm
        have w5 : But q H2 (upd H4 d (.dT (gs.map grpKV))) := fun b o nb e => by
          by_cases z : b = d
          · rw [z, s02 _ _ N.at_] at e
            rw [z, upd_same]
            exact e
          · rw [upd_ne z]
            exact w4 _ _ nb (wd _ _ z (w3 _ _ nb e))
        have inv5 : TInv K U ms gs q rs4 (upd H4 d (.dT (gs.map grpKV))) := ⟨inv4.tab.butFrz upd_but hd4 nqd, inv4.snd, inv4.sup, inv4.ne⟩
        cases ch with
        | false =>
          obtain ⟨e1, e2⟩ := cl4 rfl
          refine ⟨hd4, 961 - total rs4, by rw [e1] at tl ⊢; omega, rs4, false, _, _, _, _, _, _, rfl, w5, inv5, fun _ n hn x hx => ?_, by show _ = 961 + 0; omega⟩
          obtain ⟨g, hg, hng⟩ := (N.g.all n).mp hn
          rw [e1] at hx ⊢
          exact e2 g hg n hng x hx
        | true =>
          have := tot4 rfl
          exact ⟨hd4, 962 - total rs4, by omega, rs4, true, _, _, _, _, _, _, rfl, w5, inv5, fun z => (nomatch z), by show _ = 961 + 1; omega⟩
end
end NC
-- NcRoute
set_option Elab.async false
set_option linter.all false
set_option maxRecDepth 100000
set_option maxHeartbeats 4000000
/-! Who is known by which place; who is reached by which places. -/
namespace NC
open PySem PySem.Spec PyProof.Rows L2 PySem.W
/-- a dict just made is locked for good: no one looks at it again -/
def tFrz (t : TE) : TE := fun σ H Q => t σ H fun x H1 => Q x H1 ∨ ∃ d u, x = .ref d ∧ H1 d = some u ∧ Mut (some u) ∧ ∀ od, Q x (upd H1 d (.frz od u))
theorem pe_frz {X : Cx} {e : Expr} {t : TE} (h : PE X e t) : PE X e (tFrz t) := by
  refine ⟨fun pins s σ H Q I hw => ?_⟩
  refine thn (h.run pins s σ H _ I hw) fun v s1 ⟨x, H1, I1, r, q⟩ => ?_
  rcases q with q | ⟨d, u, rfl, hd, mu, q⟩
  · exact ⟨x, H1, I1, r, q⟩
  · obtain ⟨od, I2⟩ := I1.lock hd mu
    exact ⟨_, _, I2, r, q od⟩
theorem pi_itemsF {X : Cx} {e : Expr} {td : TE} {apos cpos : Pos} {elts : List Expr} {kk : Nat} {tpos : Pos} (he : PE X e td) (hbase : attributeBase e "items" X.env (eval e X.env) = eval e X.env := by rfl) (hline : (apos.endLine == cpos.line) = true := by rfl) :
    PI X (.Tuple elts kk tpos) (.Call (.Attribute e "items" apos) [] [] cpos) (iItems (tFrz td)) := pi_items (pe_frz he) hbase hline
/-- a lock is gone: all stands as before, but what was written -/
theorem but_unlock {t a : Addr} {od : Obj} {u : HO} {H H' : Hp} (ha : H a = some u) (w : But t (upd H a (.frz od u)) H') : But t H (upd H' a u) := fun b o nb e => by
  by_cases z : b = a
  · rw [z, ha] at e
    rw [z, upd_same]
    exact e
  · rw [upd_ne z]
    exact w _ _ nb (by rw [upd_ne z]; exact e)
structure Ent where
  who : Str
  at_ : Addr
  ks : List Nat
def entKV (e : Ent) : Key × V := (Sum.inr e.who, V.ref e.at_)
def intsV (ks : List Nat) : List V := ks.map fun (k : Nat) => V.int (k : Int)
theorem ents_none {es : List Ent} {x : Str} : valV (es.map entKV) (Sum.inr x) = none ↔ ∀ e ∈ es, e.who ≠ x := by
  induction es with
  | nil => simp [valV]
  | cons e es ih =>
    by_cases h : e.who = x
    · rw [List.map_cons, valV_pos (p := entKV e) (by show Sum.inr e.who = Sum.inr x; rw [h])]
      simp [h]
    · rw [List.map_cons, valV_neg (p := entKV e) (fun z => h (Sum.inr.inj z)), ih]
      simp [h]
theorem ents_some {es : List Ent} (nd : (es.map (·.who)).Nodup) {e : Ent} (he : e ∈ es) : valV (es.map entKV) (Sum.inr e.who) = some (.ref e.at_) := by
  induction es with
  | nil => cases he
  | cons y es ih =>
    rw [List.map_cons, List.nodup_cons] at nd
    by_cases h : y.who = e.who
    · rw [List.map_cons, valV_pos (p := entKV y) (by show Sum.inr y.who = Sum.inr e.who; rw [h])]
      rcases List.mem_cons.mp he with rfl | he
      · rfl
      · exact absurd (List.mem_map.mpr ⟨e, he, h.symm⟩) nd.1
    · rw [List.map_cons, valV_neg (p := entKV y) (fun z => h (Sum.inr.inj z))]
      rcases List.mem_cons.mp he with rfl | he
      · exact absurd rfl h
      · exact ih nd.2 he
theorem bt_frzK {K : PySem.W.Frag} {p : Addr} {od : Obj} {kvs : List (Key × V)} {H H' : Hp} {a : Addr} {xs : List V} (w : But p H H') (hp : H p = some (.frz od (.dK kvs))) (h : SqT K H a xs) : SqT K H' a xs := by
  rcases h with (h | ⟨o, h⟩) | h
  · exact .inl (.inl (w _ _ (fun z => by rw [z, hp] at h; cases h) h))
  · exact .inl (.inr ⟨o, w _ _ (fun z => by rw [z, hp] at h; cases h) h⟩)
  · exact .inr h
structure Ents (K : PySem.W.Frag) (H : Hp) (es : List Ent) (ls : List (Line Str)) (p : Str) (c : List Str) (U : List Str) : Prop where
  val : ∀ e ∈ es, SqT K H e.at_ (intsV e.ks)
  nd : (es.map (·.who)).Nodup
  led : ∀ e ∈ es, Led ls p c e.ks e.who
  sub : ∀ e ∈ es, e.who ∈ p :: U
theorem Ents.on {K : PySem.W.Frag} {H H' : Hp} {es : List Ent} {ls : List (Line Str)} {p : Str} {c : List Str} {U : List Str} (h : Ents K H es ls p c U) (f : ∀ a xs, SqT K H a xs → SqT K H' a xs) : Ents K H' es ls p c U := { h with val := fun e he => f _ _ (h.val e he) }
theorem Ents.len {K : PySem.W.Frag} {H : Hp} {es : List Ent} {ls : List (Line Str)} {p : Str} {c : List Str} {U : List Str} (h : Ents K H es ls p c U) : es.length ≤ U.length + 1 := by
  have z := nd_le (l := es.map (·.who)) (m := p :: U) h.nd fun x hx => by
    obtain ⟨e, he, rfl⟩ := List.mem_map.mp hx
    exact h.sub e he
  rwa [List.length_map, List.length_cons] at z
theorem Ents.kl {K : PySem.W.Frag} {H : Hp} {es : List Ent} {ls : List (Line Str)} {p : Str} {c : List Str} {U : List Str} (h : Ents K H es ls p c U) {e : Ent} (he : e ∈ es) : e.ks.length = c.length := Led.len c p e.ks e.who (h.led e he)
structure Kn where
  key : Str × Str
  at_ : Addr
  ms : List (Str × Nat)
def knKV (k : Kn) : List Key × V := (pk k.key, V.ref k.at_)
def msKV (m : Str × Nat) : Key × V := (Sum.inr m.1, V.int (m.2 : Int))
structure Known (H : Hp) (d : Addr) (kns : List Kn) (ls : List (Line Str)) : Prop where
  at_ : H d = some (.dT (kns.map knKV))
  val : ∀ n ∈ kns, H n.at_ = some (.dK (n.ms.map msKV))
  nd : (kns.map (·.key)).Nodup
  ndm : ∀ n ∈ kns, (n.ms.map (·.1)).Nodup
  nda : (kns.map (·.at_)).Nodup
  has : ∀ n ∈ kns, ∀ m ∈ n.ms, ∃ l, ls[m.2]? = some l ∧ l.p = n.key.1 ∧ l.n = n.key.2 ∧ l.q = m.1
  all : ∀ (i : Nat) l, ls[i]? = some l → ∃ n ∈ kns, n.key = (l.p, l.n) ∧ (l.q, i) ∈ n.ms
theorem Known.same {H H' : Hp} {d : Addr} {kns : List Kn} {ls : List (Line Str)} (s : Same H H') (k : Known H d kns ls) : Known H' d kns ls := { k with at_ := s _ _ k.at_, val := fun n hn => s _ _ (k.val n hn) }
/-- what the lines say -/
def Says (ls : List (Line Str)) (p n x : Str) : Prop := ∃ (i : Nat) (l : Line Str), ls[i]? = some l ∧ l.p = p ∧ l.n = n ∧ l.q = x
theorem kns_valV : ∀ (kns : List Kn) (k : Str × Str), valV (kns.map knKV) (pk k) = (kns.find? fun r => decide (r.key = k)).map fun r => V.ref r.at_
  | [], k => rfl
  | r :: kns, k => by
    by_cases h : r.key = k
    · rw [List.map_cons, valV_pos (p := knKV r) (by show pk r.key = pk k; rw [h]), List.find?_cons_of_pos (by simpa using h)]
      rfl
    · rw [List.map_cons, valV_neg (p := knKV r) (fun z => h (pk_inj z)), List.find?_cons_of_neg (by simpa using h), kns_valV kns k]
theorem kns_get {kns : List Kn} (k : Str × Str) : (valV (kns.map knKV) (pk k) = none ∧ ∀ n ∈ kns, n.key ≠ k) ∨ ∃ n ∈ kns, n.key = k ∧ valV (kns.map knKV) (pk k) = some (.ref n.at_) := by
  rw [kns_valV]
  generalize e : (kns.find? fun r => decide (r.key = k)) = o
  cases o with
  | none =>
    refine .inl ⟨rfl, fun n hn z => ?_⟩
    have := List.find?_eq_none.mp e n hn
    simp [z] at this
  | some n => exact .inr ⟨n, List.mem_of_find?_eq_some e, by simpa using List.find?_some e, rfl⟩
end NC
-- NcP3
set_option Elab.async false
set_option linter.all false
set_option maxRecDepth 100000
set_option maxHeartbeats 4000000
namespace NC
local macro_rules | `(tactic| walk_at "go") => `(tactic| (repeat (first
  | (refine ⟨_, rfl, ?_⟩)
  | (refine ⟨_, _, rfl, rfl, ?_⟩)
  | (refine ⟨_, _, rfl, ?_⟩)
  | (refine ⟨_, _, _, rfl, ?_⟩)
  | (refine Or.inl ⟨_, rfl, ?_⟩)
  | (refine iteT ?_)
  | (refine iteF ?_))))
open PySem PySem.Spec PyProof.Rows L2 PySem.W
def spRoutes (K : PySem.W.Frag) : Sp := fun vs H Q _ => ∃ (d r : Addr) (kns : List Kn) (ls : List (Line Str)) (U : List Str) (p0 : Str) (ns : List Str), vs = [.ref d, .ref r] ∧ Known H d kns ls ∧ (∀ l ∈ ls, l.q ∈ U) ∧ U.length ≤ 40 ∧ SqT K H r ((p0 :: ns).map V.str) ∧ ns.length ≤ 19 ∧
  ∀ q es H', Same H H' → H q = none → H' q = some (.dK (es.map entKV)) → Ents K H' es ls p0 ns U → (∀ x, Reach (Says ls) p0 ns x → ∃ e ∈ es, e.who = x) → Q (.ref q) H'
abbrev NN_routes : List Str := ["known", "chain", "reached", "name", "found", "person", "places", "other", "place"]
theorem sc_routes : FnScope NN_routes ["known", "chain"] (defScope s_routes) := ⟨rfl, rfl, rfl, by decide +kernel, rfl, by decide +kernel, by decide +kernel⟩
section
variable {P : Program} {w : World} {K : PySem.W.Frag} {mg : Str → Option Value} {base : Heap}
-- 0 known; 1 chain; 2 reached; 3 name; 4 found; 5 person; 6 places; 7 other; 8 place
theorem cal_routes (T : Txt K mg) : Cal P w K mg base 1 "routes" (spRoutes K) := by
  refine cal_of T.f_routes T.g_routes sc_routes (fun vs H Q E h => ?_) (fun _ _ _ _ _ _ us hl => match us, hl with | [_, _], _ => rfl) (fun cdv A outer s H vs Q E hr h => ?_)
  · obtain ⟨d, r, kns, ls, U, p0, ns, rfl, _⟩ := h
    rfl
  · obtain ⟨d, r, kns, ls, U, p0, ns, rfl, kn, lsU, hU, hrow, hcl, k⟩ := h
    have nd := sc_routes.nd
    have hu := hu_of hr
    refine ⟨_, 
      (pss_cons (ps_set (i := 2) nd rfl (Or.inl rfl) (pe_disp (pps_cons (pe_ix ix_tup (pv 1) pe_int (fun _ _ => rfl)) (pe_tup pa_nil) pps_nil) (by rfl) (by rfl) (fun z => by cases z) (by decide)))
      (pss_cons (ps_for PassesOwn.never rfl (pi_tup (pe_slice sl_tupA (pv 1) (po_some pe_int) po_none)) (pg_name (i := 3) nd rfl (Or.inl rfl)) 
        (pss_cons (ps_set (i := 4) nd rfl (Or.inl rfl) pe_dnewK)
        (pss_cons (ps_lock (ps_for PassesOwn.never rfl (pi_items (pv 2)) (pg_tup rfl (pgs_cons (pg_name (i := 5) nd rfl (Or.inl rfl)) (pgs_cons (pg_name (i := 6) nd rfl (Or.inl rfl)) pgs_nil))) 
          (pss_one (ps_lock (ps_for PassesOwn.never rfl (pi_itemsF (pe_dget2 hu (pv 0) (pe_tup (pa_cons (pv 5) (pa_cons (pv 3) pa_nil))) pe_dnewK ⟨by rfl, by rfl, by rfl, by rfl⟩)) (pg_tup rfl (pgs_cons (pg_name (i := 7) nd rfl (Or.inl rfl)) (pgs_cons (pg_name (i := 8) nd rfl (Or.inl rfl)) pgs_nil))) 
            (pss_one (ps_if (pt_cmp (pc_dnotin hu (pv 7) (pv 4))) 
              (pss_one (ps_dput hu (pv 4) (pv 7) (pe_tup (StX.pa_star (pv 6) (pa_cons (pv 8) pa_nil))) rfl)) pss_nil)))))))
        (pss_one (ps_set (i := 2) nd rfl (Or.inl rfl) (pv 4))))))
      (pss_one (ps_ret (pv 2))))), ?_⟩
    walk_at "go"
    intro q nq
    refine kNew nq fun H1 s1 hq => ?_
    walk_at "go"
    refine ⟨r, _, _, _, rfl, rfl, sq_t s1 hrow, (show atI ((p0 :: ns).map V.str) 0 = some (.str p0) from at_nat (Int.le_refl 0) rfl), ?_⟩
    walk_at "go"
    refine ⟨by show 0 ≤ sizeLine; decide, fun e0 ne0 => kNew ne0 fun H2 s2 he0 => ?_⟩
    walk_at "go"
    refine ⟨s2 _ _ hq, [(.inr p0, .ref e0)], rfl, by show 1 ≤ 15; decide, kPut fun H3 w3 h3 => ?_⟩
    walk_at "go"
    have s03 : Same H H3 := But.new (s1.trans s2) w3 nq
    have e0q : e0 ≠ q := fun z => by rw [z, hq] at ne0; cases ne0
    have he3 : SqT K H3 e0 [] := st_of (w3 _ _ e0q he0)
    refine ⟨r, _, rfl, sq_t s03 hrow, fun h => absurd h tail_new, fun _ pn np => kNew np fun H4 s4 hpn => ?_⟩
    rw [List.map_cons, cut_tail] at hpn
    walk_at "go"
    have s04 := s03.trans s4
    refine ⟨⟨_, st_of hpn⟩, for_it (walk_tup (xs := ns.map V.str)) (fun i σ H' => ∃ (qh : Addr) (es : List Ent) (o3 o4 o5 o6 o7 o8 : Option V), σ = [some (.ref d), some (.ref r), some (.ref qh), o3, o4, o5, o6, o7, o8] ∧ Same H H' ∧ H' pn = some (.tup (ns.map V.str)) ∧ H qh = none ∧ H' qh = some (.dK (es.map entKV)) ∧
        Ents K H' es ls p0 (ns.take i) U ∧ ∀ x, Reach (Says ls) p0 (ns.take i) x → ∃ e ∈ es, e.who = x)
      ⟨q, [⟨p0, e0, []⟩], _, _, _, _, _, _, rfl, s04, hpn, nq, s4 _ _ h3, ⟨fun e he => by rw [List.mem_singleton.mp he]; exact sq_t s4 he3, by simp, fun e he => by rw [List.mem_singleton.mp he]; exact rfl, fun e he => by rw [List.mem_singleton.mp he]; exact List.mem_cons_self⟩, fun x hx => ⟨_, List.mem_cons_self, hx.symm⟩⟩ (fun i σ H' _ ⟨_, _, _, _, _, _, _, _, _, _, h, _⟩ => st_of h) ?_ ?_⟩
    · rintro i y σ _ H5 hi ⟨qh, es, o3, o4, o5, o6, o7, o8, rfl, s05, hpn5, nqh, hqh, E5, all5⟩ ⟨rfl, hy⟩
      rw [List.getElem?_map] at hy
      obtain ⟨n, hn, rfl⟩ := Option.map_eq_some_iff.mp hy
      walk_at "go"
      refine (fun t nt => kNew nt fun H6 s6 ht => ?_)
      walk_at "go"
      have s06 := s05.trans s6
      have ntH : H t = none := by
        cases e : H t with
        | none => rfl
        | some o => rw [s05 _ _ e] at nt; cases nt
      have hqh6 := s6 _ _ hqh
      have E6 := E5.on (fun a xs h => sq_t s6 h)
      have tk : ns.take (i + 1) = ns.take i ++ [n] := by rw [List.take_add_one, hn, Option.toList_some]
      have li : (ns.take i).length ≤ 19 := by rw [List.length_take]; omega
      have nqt : qh ≠ t := ne_of_none hqh nt
      refine ⟨qh, .dK (es.map entKV), hqh6, trivial, fun od => ?_⟩
      obtain ⟨H7, eH7⟩ : ∃ H7, upd H6 qh (.frz od (.dK (es.map entKV))) = H7 := ⟨_, rfl⟩
      have hqh7 : H7 qh = some (.frz od (.dK (es.map entKV))) := by rw [← eH7]; exact upd_same
      have w67 : But qh H6 H7 := by rw [← eH7]; exact upd_but
      have s07 : Same H H7 := But.new s06 w67 nqh
      have ht7 : H7 t = some (.dK []) := w67 _ _ (Ne.symm nqt) ht
      have E7 := E6.on (fun a xs h => bt_t w67 hqh6 rfl h)
      rw [eH7]
      walk_at "go"
      refine ⟨qh, od, _, rfl, hqh7, for_it walk_items (fun j σ H' => ∃ (fs : List Ent) (o5 o6 o7 o8 : Option V), σ = [some (.ref d), some (.ref r), some (.ref qh), some (.str n), some (.ref t), o5, o6, o7, o8] ∧ But t H7 H' ∧ H' t = some (.dK (fs.map entKV)) ∧
          Ents K H' fs ls p0 (ns.take (i + 1)) U ∧ ∀ x, (∃ e ∈ es.take j, Says ls e.who n x) → ∃ f ∈ fs, f.who = x)
        ⟨[], _, _, _, _, rfl, But.refl _ _, ht7, ⟨by simp, List.nodup_nil, by simp, by simp⟩, by simp⟩ (fun j σ H' _ ⟨_, _, _, _, _, _, w, _⟩ => w _ _ nqt hqh7) ?_ ?_⟩
      · rintro j y σ H8 H9 hj ⟨fs, o5, o6, o7, o8, rfl, w8, ht8, F8, all8⟩ ⟨T', x', y', rfl, nT, e9, hx', hy'⟩
        rw [List.length_map] at hj
        have he : es[j]? = some (es[j]'hj) := List.getElem?_eq_getElem hj
        generalize es[j]'hj = e at he
        have he' : (es.map entKV)[j]? = some (entKV e) := by rw [List.getElem?_map, he]; rfl
        dsimp only at hx' hy'
        rw [he'] at hx' hy'
        cases hx'
        cases hy'
        have s89 : Same H8 H9 := by rw [e9]; exact upd_new nT
        have hT : H9 T' = some (.tup [.str e.who, .ref e.at_]) := by rw [e9]; exact upd_same
        have hem := List.mem_of_getElem? he
        have w9 : But t H7 H9 := w8.same s89
        have s09 : Same H H9 := But.new s07 w9 ntH
        have ht9 := s89 _ _ ht8
        have F9 := F8.on (fun a xs h => sq_t s89 h)
        have hea : SqT K H9 e.at_ (intsV e.ks) := bt_t w9 ht7 rfl (E7.val e hem)
        have kn9 := kn.same s09
        have etk : es.take (j + 1) = es.take j ++ [e] := by rw [List.take_add_one, he, Option.toList_some]
        refine ⟨T', _, rfl, st_of hT, rfl, ?_⟩
        refine ⟨_, _, rfl, ?_⟩
        refine ⟨_, _, rfl, ?_⟩
        refine ⟨rfl, ?_⟩
        rcases kns_get (kns := kns) (e.who, n) with ⟨hv, hno⟩ | ⟨m0, hm0, hk0, hv⟩
        · have no : ∀ x, ¬ Says ls e.who n x := fun x ⟨k, l, h1, h2, h3, h4⟩ => by
            obtain ⟨m, hm, hk, _⟩ := kn.all k l h1
            exact hno m hm (by rw [hk, h2, h3])
          refine ⟨d, _, kn9.at_, trivial, fun od2 => ?_⟩
          obtain ⟨HA, eHA⟩ : ∃ HA, upd H9 d (.frz od2 (.dT (kns.map knKV))) = HA := ⟨_, rfl⟩
          have hdA : HA d = some (.frz od2 (.dT (kns.map knKV))) := by rw [← eHA]; exact upd_same
          have wA : But d H9 HA := by rw [← eHA]; exact upd_but
          rw [eHA]
          walk_at "go"
          refine ⟨.inr ⟨_, .inr ⟨_, hdA⟩⟩, ?_⟩
          walk_at "go"
          refine ⟨by show 2 ≤ sizeLine; decide, fun b nb => kNew nb fun HB sB hb => ?_⟩
          walk_at "go"
          refine (fun ee nee => kNew nee fun HC sC hee => ?_)
          have hdC := sC _ _ (sB _ _ hdA)
          refine ⟨none, .inr ⟨_, _, b, .inr ⟨_, hdC⟩, rfl, (show HC b = some (.tup ((pk (e.who, n)).map kV)) from sC _ _ hb), hv.symm⟩, ?_⟩
          refine .inr ⟨ee, .dK [], rfl, hee, trivial, fun od3 => ?_⟩
          obtain ⟨HD, eHD⟩ : ∃ HD, upd HC ee (.frz od3 (.dK [])) = HD := ⟨_, rfl⟩
          have heD : HD ee = some (.frz od3 (.dK [])) := by rw [← eHD]; exact upd_same
          have sBD : Same HB HD := But.new sC (by rw [← eHD]; exact upd_but) nee
          have sAD : Same HA HD := sB.trans sBD
          have hdD := sAD _ _ hdA
          rw [eHD]
          refine ⟨ee, od3, [], rfl, heD, for_it walk_items (fun _ σ H' => σ = [some (.ref d), some (.ref r), some (.ref qh), some (.str n), some (.ref t), some (.str e.who), some (.ref e.at_), o7, o8] ∧ H' = HD) ⟨rfl, rfl⟩ (fun _ _ _ _ h => by rw [h.2]; exact heD) (fun i _ _ _ _ hi => absurd hi (by simp)) ?_⟩
          rintro _ _ ⟨rfl, rfl⟩
          have td : t ≠ d := fun z => by rw [z, kn.at_] at ntH; cases ntH
          refine ⟨hdD, fs, _, _, _, _, rfl, w9.trans (but_unlock kn9.at_ (by rw [eHA]; exact (But.refl _ _).same sAD)), by rw [upd_ne td]; exact sAD _ _ (wA _ _ td ht9), F9.on (fun a xs h => bt_frz upd_but hdD (sq_t sAD (bt_t wA kn9.at_ rfl h))), fun x hx => ?_⟩
          obtain ⟨e', he', hs⟩ := hx
          rw [etk] at he'
          rcases List.mem_append.mp he' with he' | he'
          · exact all8 x ⟨e', he', hs⟩
          · rw [List.mem_singleton.mp he'] at hs
            exact absurd hs (no x)
        · have hm9 := kn9.val m0 hm0
          have mt : m0.at_ ≠ t := fun z => by rw [← z, kn.val m0 hm0] at ntH; cases ntH
          refine ⟨m0.at_, _, hm9, trivial, fun od2 => ?_⟩
          obtain ⟨HA, eHA⟩ : ∃ HA, upd H9 m0.at_ (.frz od2 (.dK (m0.ms.map msKV))) = HA := ⟨_, rfl⟩
          have hmA : HA m0.at_ = some (.frz od2 (.dK (m0.ms.map msKV))) := by rw [← eHA]; exact upd_same
          have wA : But m0.at_ H9 HA := by rw [← eHA]; exact upd_but
          have md : d ≠ m0.at_ := fun z => by
            have h1 := kn.val m0 hm0
            rw [← z, kn.at_] at h1
            cases h1
          have hdA := wA _ _ md kn9.at_
          have htA := wA _ _ (Ne.symm mt) ht9
          rw [eHA]
          walk_at "go"
          refine ⟨.inr ⟨_, .inl hdA⟩, ?_⟩
          walk_at "go"
          refine ⟨by show 2 ≤ sizeLine; decide, fun b nb => kNew nb fun HB sB hb => ?_⟩
          walk_at "go"
          refine (fun ee nee => kNew nee fun HC sC hee => ?_)
          have sAC := sB.trans sC
          have hmC := sAC _ _ hmA
          refine ⟨_, .inr ⟨_, _, b, .inl (sAC _ _ hdA), rfl, (show HC b = some (.tup ((pk (e.who, n)).map kV)) from sC _ _ hb), hv.symm⟩, ?_⟩
          refine .inl ?_
          refine ⟨m0.at_, od2, _, rfl, hmC, for_it walk_items (fun m σ H' => ∃ (gs : List Ent) (o7 o8 : Option V), σ = [some (.ref d), some (.ref r), some (.ref qh), some (.str n), some (.ref t), some (.str e.who), some (.ref e.at_), o7, o8] ∧ But t HA H' ∧ H' t = some (.dK (gs.map entKV)) ∧
              Ents K H' gs ls p0 (ns.take (i + 1)) U ∧ ∀ x, ((∃ e ∈ es.take j, Says ls e.who n x) ∨ ∃ z ∈ m0.ms.take m, z.1 = x) → ∃ f ∈ gs, f.who = x)
            ⟨fs, _, _, rfl, (But.refl _ _).same sAC, sAC _ _ htA, F9.on (fun a xs h => sq_t sAC (bt_t wA hm9 rfl h)), fun x hx => by
              rcases hx with hx | ⟨z, hz, _⟩
              · exact all8 x hx
              · simp at hz⟩ (fun m σ H' _ ⟨_, _, _, _, w, _⟩ => w _ _ mt hmA) ?_ ?_⟩
          · rintro m y σ HE HF hm2 ⟨gs, o7, o8, rfl, wE, htE, GE, allE⟩ ⟨T2, x2, y2, rfl, nT2, eF, hx2, hy2⟩
            rw [List.length_map] at hm2
            have hz : m0.ms[m]? = some (m0.ms[m]'hm2) := List.getElem?_eq_getElem hm2
            generalize m0.ms[m]'hm2 = z at hz
            have hz' : (m0.ms.map msKV)[m]? = some (msKV z) := by rw [List.getElem?_map, hz]; rfl
            dsimp only at hx2 hy2
            rw [hz'] at hx2 hy2
            cases hx2
            cases hy2
            have sEF : Same HE HF := by rw [eF]; exact upd_new nT2
            have hT2 : HF T2 = some (.tup [.str z.1, .int (z.2 : Int)]) := by rw [eF]; exact upd_same
            have htF := sEF _ _ htE
            have GF := GE.on (fun a xs h => sq_t sEF h)
            have wF : But t HA HF := wE.same sEF
            have heF : SqT K HF e.at_ (intsV e.ks) := bt_t wF htA rfl (bt_t wA hm9 rfl hea)
            have ztk : m0.ms.take (m + 1) = m0.ms.take m ++ [z] := by rw [List.take_add_one, hz, Option.toList_some]
            obtain ⟨l, hl, l1, l2, l3⟩ := kn.has m0 hm0 z (List.mem_of_getElem? hz)
            rw [hk0] at l1 l2
            refine ⟨T2, _, rfl, st_of hT2, rfl, ?_⟩
            refine ⟨_, _, rfl, ?_⟩
            refine ⟨_, _, rfl, ?_⟩
            refine ⟨rfl, ?_⟩
            walk_at "go"
            refine ⟨t, _, rfl, .inl ⟨_, .inr z.1, .inl htF, rfl, rfl⟩, ?_⟩
            generalize hv2 : valV (gs.map entKV) (Sum.inr z.1) = ov
            cases ov with
            | some v =>
              refine ⟨_, rfl, iteN rfl ?_⟩
              walk_at "go"
              refine ⟨gs, _, _, rfl, wF, htF, GF, fun x hx => ?_⟩
              rcases hx with hx | ⟨z', hz2, rfl⟩
              · exact allE x (.inl hx)
              · rw [ztk] at hz2
                rcases List.mem_append.mp hz2 with hz2 | hz2
                · exact allE _ (.inr ⟨z', hz2, rfl⟩)
                · rw [List.mem_singleton.mp hz2]
                  refine Classical.byContradiction fun hno => ?_
                  rw [ents_none.mpr fun f hf e => hno ⟨f, hf, e⟩] at hv2
                  cases hv2
            | none =>
              refine ⟨_, rfl, iteK rfl ?_⟩
              walk_at "go"
              have lk : (intsV e.ks).length ≤ 19 := by
                unfold intsV
                rw [List.length_map, E5.kl hem]
                exact li
              have z20 : (20 : Nat) ≤ sizeLine := by decide
              refine ⟨e.at_, intsV e.ks, rfl, .inl heF, ?_⟩
              walk_at "go"
              refine ⟨by rw [List.length_append]; show _ + 1 ≤ sizeLine; omega, fun u nu => kNew nu fun HG sG hu => ?_⟩
              walk_at "go"
              have htG := sG _ _ htF
              have nut : u ≠ t := fun z => by rw [z, htF] at nu; cases nu
              have ln := GF.len
              refine ⟨t, _, rfl, DPut.k (k := .inr z.1) htG (sz_lt (by rw [List.length_map]; omega)), kPut fun HH wH hH => ?_⟩
              rw [putK_new _ hv2] at hH
              have fresh := ents_none.mp hv2
              walk_at "go"
              refine ⟨gs ++ [⟨z.1, u, e.ks ++ [z.2]⟩], _, _, rfl, (wF.same sG).trans wH, by rw [hH, List.map_append]; rfl, ⟨fun f hf => ?_, ?_, fun f hf => ?_, fun f hf => ?_⟩, fun x hx => ?_⟩
              · rcases List.mem_append.mp hf with hf | hf
                · exact bt_t wH htG rfl (sq_t sG (GF.val f hf))
                · rw [List.mem_singleton.mp hf]
                  have z9 : HH u = some (.tup (intsV (e.ks ++ [z.2]))) := by
                    unfold intsV
                    rw [List.map_append]
                    exact wH _ _ nut hu
                  exact st_of z9
              · rw [List.map_append]
                refine List.nodup_append.mpr ⟨GF.nd, by simp, fun a ha b hb e => ?_⟩
                obtain ⟨f, hf, rfl⟩ := List.mem_map.mp ha
                rw [List.mem_map] at hb
                obtain ⟨g, hg, rfl⟩ := hb
                rw [List.mem_singleton.mp hg] at e
                exact fresh f hf e
              · rcases List.mem_append.mp hf with hf | hf
                · exact GF.led f hf
                · rw [List.mem_singleton.mp hf, tk]
                  exact Led.snoc (ns.take i) p0 n e.who z.1 e.ks z.2 l (E5.led e hem) hl l1 l2 l3
              · rcases List.mem_append.mp hf with hf | hf
                · exact GF.sub f hf
                · rw [List.mem_singleton.mp hf]
                  show z.1 ∈ p0 :: U
                  rw [← l3]
                  exact List.mem_cons_of_mem _ (lsU l (List.mem_of_getElem? hl))
              · have old : (∃ f ∈ gs, f.who = x) → ∃ f ∈ gs ++ [⟨z.1, u, e.ks ++ [z.2]⟩], f.who = x := fun ⟨f, hf, e⟩ => ⟨f, List.mem_append_left _ hf, e⟩
                rcases hx with hx | ⟨z', hz2, rfl⟩
                · exact old (allE x (.inl hx))
                · rw [ztk] at hz2
                  rcases List.mem_append.mp hz2 with hz2 | hz2
                  · exact old (allE _ (.inr ⟨z', hz2, rfl⟩))
                  · rw [List.mem_singleton.mp hz2]
                    exact ⟨_, List.mem_append_right _ List.mem_cons_self, rfl⟩
          · rintro σ HE ⟨gs, o7, o8, rfl, wE, htE, GE, allE⟩
            rw [List.length_map, List.take_length] at allE
            have hmE := wE _ _ mt hmA
            refine ⟨hmE, gs, _, _, _, _, rfl, w9.trans (but_unlock hm9 (by rw [eHA]; exact wE)), by rw [upd_ne (Ne.symm mt)]; exact htE, GE.on (fun a xs h => bt_frzK upd_but hmE h), fun x hx => allE x ?_⟩
            obtain ⟨e', he', k', l, h1, h2, h3, h4⟩ := hx
            rw [etk] at he'
            rcases List.mem_append.mp he' with he' | he'
            · exact .inl ⟨e', he', k', l, h1, h2, h3, h4⟩
            · rw [List.mem_singleton.mp he'] at h2
              obtain ⟨m, hm, hk, hin⟩ := kn.all k' l h1
              rw [h2, h3] at hk
              rw [key_inj kn.nd hm hm0 (hk.trans hk0.symm)] at hin
              exact .inr ⟨_, hin, h4⟩
      · rintro σ H8 ⟨fs, o5, o6, o7, o8, rfl, w8, ht8, F8, all8⟩
        rw [List.length_map, List.take_length] at all8
        have hqh8 := w8 _ _ nqt hqh7
        have w68 : But t H6 (upd H8 qh (.dK (es.map entKV))) := but_unlock hqh6 (by rw [eH7]; exact w8)
        have npt : pn ≠ t := ne_of_none hpn5 nt
        refine ⟨hqh8, ?_⟩
        walk_at "go"
        refine ⟨t, fs, _, _, _, _, _, _, rfl, But.new s06 w68 ntH, w68 _ _ npt (s6 _ _ hpn5), ntH, by rw [upd_ne (Ne.symm nqt)]; exact ht8, F8.on (fun a xs h => bt_frzK upd_but hqh8 h), fun x hx => ?_⟩
        rw [tk, Reach.snoc] at hx
        obtain ⟨q', hq', hs⟩ := hx
        obtain ⟨e, he, rfl⟩ := all5 q' hq'
        exact all8 x ⟨e, he, hs⟩
    · rintro σ H5 ⟨qh, es, o3, o4, o5, o6, o7, o8, rfl, s05, hpn5, nqh, hqh, E5, all5⟩
      rw [List.length_map, List.take_length] at E5 all5
      walk_at "go"
      exact k qh es H5 s05 nqh hqh E5 all5
end
end NC
-- NcLaw4
set_option Elab.async false
set_option linter.all false
set_option maxRecDepth 100000
set_option maxHeartbeats 4000000
namespace NC
local macro_rules | `(tactic| walk_at "go") => `(tactic| (repeat (first
  | (refine ⟨_, rfl, ?_⟩)
  | (refine ⟨_, _, rfl, rfl, ?_⟩)
  | (refine ⟨_, _, rfl, ?_⟩)
  | (refine ⟨_, _, _, rfl, ?_⟩)
  | (refine Or.inl ⟨_, rfl, ?_⟩)
  | (refine iteT ?_)
  | (refine iteF ?_))))
open PySem PySem.Spec PyProof.Rows L2 PySem.W
def spRounds (K : PySem.W.Frag) : Sp := fun vs H Q _ => ∃ (a hl e : Addr) (f : Plain → Bool) (us : List V) (xs : List Plain) (U : List Str), vs = [.ref a, .ref hl, .ref e] ∧ H a = some (.lst us) ∧ HdAll K H us xs ∧ xs.length ≤ 24 ∧ (∀ x ∈ xs, PlainOk x) ∧
  H hl = some (.lst ((nams f xs).map fun n => V.int n.ix)) ∧ H e = some (.dT []) ∧ U.length ≤ 40 ∧ (∀ n ∈ nams f xs, ∀ p r, n.chain = p :: r → p ∈ U) ∧
  ∀ q rs H', Same H H' → H q = none → Tab K false U H' q rs → (∀ p n x, RelT rs p n x ↔ Lfp (nams f xs) p n x) → Q (.ref q) H'
abbrev NN_law_rounds : List Str := ["_law_plains", "_law_held_here", "_law_table", "_law_found", "_law_is_done", "_law_pair", "_law_k", "_law_own", "_law_more", "_law_who"]
theorem sc_law_rounds : FnScope NN_law_rounds ["_law_plains", "_law_held_here", "_law_table"] (defScope s_law_rounds) := ⟨rfl, rfl, rfl, by decide +kernel, rfl, by decide +kernel, by decide +kernel⟩
section
variable {P : Program} {w : World} {K : PySem.W.Frag} {mg : Str → Option Value} {base : Heap}
-- 0 _law_plains; 1 _law_held_here; 2 _law_table; 3 _law_found; 4 _law_is_done; 5 _law_pair; 6 _law_k; 7 _law_own; 8 _law_more; 9 _law_who
theorem cal_rounds (T : Txt K mg) : Cal P w K mg base 2 "_law_rounds" (spRounds K) := by
  have c_law_reach : Cal P w K mg base 1 "_law_reach" (spReach K) := cal_reach T
  refine cal_of T.f_law_rounds T.g_law_rounds sc_law_rounds (fun vs H Q E h => ?_) (fun _ _ _ _ _ _ us hl => match us, hl with | [_, _, _], _ => rfl) (fun cdv A outer s H vs Q E hr h => ?_)
  · obtain ⟨a, hl, e, f, us, xs, U, rfl, _⟩ := h
    rfl
  · obtain ⟨a, hl, e, f, us, xs, U, rfl, ha, hx, hn, okx, hh, he, hU, hd, k⟩ := h
    have nd := sc_law_rounds.nd
    have hu := hu_of hr
    refine ⟨_, 
      (pss_cons (ps_par (i := 3) (j := 4) rfl nd rfl rfl (by decide) rfl rfl (pa_cons (bT (call_dictNil rfl) T.n_dict (pa_cons (pe_lock (pe_lc (own := [("_law_pair", 5)]) rfl nd (pi_keys (pv 2)) (blkOk_by (N := NN_law_rounds) (sc := defScope s_law_rounds) (by decide +kernel)) (fun _ _ _ _ _ => (pg_name (i := 5) nd rfl (Or.inl rfl))) (fun _ _ _ _ _ => pts_nil) (fun _ _ _ _ _ => (pe_tup (pa_cons (pv 5) (pa_cons (bT (call_list_ofK (K := K)) T.n_list (pa_cons (pe_dget hu (pv 2) (pv 5) (fun _ _ => rfl)) pa_nil)) pa_nil)))))) pa_nil)) (pa_cons pe_bl pa_nil)) (by rfl))
      (pss_cons (ps_while PassesOwn.never (pt_not (pt_val (pv 4))) 
        (pss_cons (ps_set (i := 4) nd rfl (Or.inl rfl) pe_bl)
        (pss_one (ps_for PassesOwn.never rfl (pi_list (pv 1)) (pg_name (i := 6) nd rfl (Or.inl rfl)) 
          (pss_cons (ps_set (i := 5) nd rfl (Or.inl rfl) (pe_tup (pa_cons (pe_ix ix_tup (pe_ix ix_list (pv 0) (pv 6) (fun _ _ => rfl)) pe_int (fun _ _ => rfl)) (pa_cons (pe_ix ix_tup (pe_ix ix_list (pv 0) (pv 6) (fun _ _ => rfl)) pe_int (fun _ _ => rfl)) pa_nil))))
          (pss_cons (ps_set (i := 7) nd rfl (Or.inr rfl) (pe_dget2 hu (pv 3) (pv 5) (pe_lst pa_nil) ⟨by rfl, by rfl, by rfl, by rfl⟩))
          (pss_cons (ps_setLc (i := 8) (own := [("_law_who", 9)]) rfl nd rfl rfl (sw_true rfl rfl rfl (by decide +kernel)) (pi_list (pe_c c_law_reach hr (by rfl) (pa_cons (pv 3) (pa_cons (pe_ix ix_tup (pe_ix ix_list (pv 0) (pv 6) (fun _ _ => rfl)) pe_int (fun _ _ => rfl)) pa_nil)))) (blkOk_by (N := NN_law_rounds) (sc := defScope s_law_rounds) (by decide +kernel)) (fun _ _ _ _ _ => (pg_name (i := 9) nd rfl (Or.inl rfl))) (fun _ _ _ _ _ => (pts_one (pt_cmpR (show OpR _ _ (rInT K Str true) from (op_notInT (α := Str) hr.units)) (pv 9) (pv 7) (by rfl)))) (fun _ _ _ _ _ => (pv 9)))
          (pss_one (ps_if (pt_cmpR (op_neT (α := (List Str)) hr.units) (pv 8) (pe_lst pa_nil) (nomark _)) 
            (pss_one (ps_asg (pe_tup (pa_cons (bB cr_sortedS T.n_sorted (pa_cons (pe_op op_cat (pv 7) (pv 8)) pa_nil)) (pa_cons pe_bl pa_nil))) (pg_tup rfl (pgs_cons (pg_sub (pv 3) (pv 5) (set_dict hu)) (pgs_cons (pg_name (i := 4) nd rfl (Or.inl rfl)) pgs_nil))))) pss_nil)))))))))
      (pss_one (ps_ret (pv 3))))), ?_⟩
    walk_at "go"
    refine ⟨e, .dT [], he, trivial, fun od => ?_⟩
    refine ⟨_, rfl, ?_⟩
    refine ⟨e, od, rfl, .inr ⟨[], upd_same, fun D nD => ?_⟩⟩
    have neD : e ≠ D := fun z => by rw [← z, upd_same] at nD; cases nD
    have nD0 : H D = none := by rw [upd_ne (Ne.symm neD)] at nD; exact nD
    refine lc_it walk_keysT (fun _ H' => H' = upd (upd H e (.frz od (.dT []))) D (.lst [])) rfl (fun _ H' _ h => by rw [h, upd_ne neD, upd_same]) (fun i _ _ _ hi => absurd hi (by simp)) ?_
    rintro _ rfl
    refine ⟨by rw [upd_ne neD, upd_same], ?_⟩
    -- the heap behind: all as it was, and the new list
    obtain ⟨H1, eH1⟩ : ∃ H1, upd (upd (upd H e (.frz od (.dT []))) D (.lst [])) e (.dT []) = H1 := ⟨_, rfl⟩
    have s1 : Same H H1 := fun b o eb => by
      rw [← eH1]
      by_cases z : b = e
      · rw [z, upd_same, ← he, ← z, eb]
      · rw [upd_ne z, upd_ne (ne_of_none eb nD0), upd_ne z, eb]
    have hD : H1 D = some (.lst []) := by rw [← eH1, upd_ne (Ne.symm neD), upd_same]
    rw [eH1]
    walk_at "go"
    refine ⟨sq_of hD, fun q nq => kNew nq fun H2 s2 hq => ?_⟩
    walk_at "go"
    have s02 := s1.trans s2
    have nq0 : H q = none := by
      cases z : H q with
      | none => rfl
      | some o => rw [s1 _ _ z] at nq; cases nq
    have tb : ∀ {rs : List Row} {H' : Hp}, Tab K false U H' q rs → (∀ r ∈ rs, ∃ n ∈ nams f xs, r.key = (n.who, n.word)) → total rs ≤ 960 := fun {rs H'} tab hk => by
      have h1 := total_le (rs := rs) (m := U.length) fun r hr => tab.len hr
      have h2 : rs.length ≤ (nams f xs).length := by
        have z := nd_le (l := rs.map (·.key)) (m := (nams f xs).map fun n => (n.who, n.word)) tab.nd fun y hy => by
          obtain ⟨r, hr, rfl⟩ := List.mem_map.mp hy
          obtain ⟨n, hn, e⟩ := hk r hr
          exact List.mem_map.mpr ⟨n, hn, e.symm⟩
        rwa [List.length_map, List.length_map] at z
      have h3 := namsFrom_len (f := f) xs 0
      have h4 : rs.length * U.length ≤ 24 * 40 := Nat.mul_le_mul (by unfold nams at h2; omega) hU
      omega
    refine ⟨fun m σ H' => ∃ (rs : List Row) (done : Bool) (o1 o2 o3 o4 o5 : Option V), σ = [some (.ref a), some (.ref hl), some (.ref e), some (.ref q), some (.bl done), o1, o2, o3, o4, o5] ∧ But q H2 H' ∧ Tab K false U H' q rs ∧ (∀ p n x, RelT rs p n x → Lfp (nams f xs) p n x) ∧
      (∀ r ∈ rs, ∃ n ∈ nams f xs, r.key = (n.who, n.word)) ∧ (done = true → Closed (nams f xs) (RelT rs)) ∧ m + total rs = 961 + (if done = true then 0 else 1), ⟨962, [], false, none, none, none, none, none, rfl, But.refl _ _, tab_nil hq, fun p n x h => by obtain ⟨r, hr, _⟩ := h; simp at hr, by simp, by simp, rfl⟩, ?_⟩
    rintro m σ H3 ⟨rs, done, o1, o2, o3, o4, o5, rfl, w3, tab3, snd3, key3, cl3, hm⟩
    walk_at "go"
    cases done with
    | true =>
      refine iteN rfl ?_
      walk_at "go"
      have s03 : Same H H3 := But.new s02 w3 nq0
      exact k q rs H3 s03 nq0 tab3 fun p n x => Lfp.iff (cl3 rfl) snd3 p n x
    | false =>
      refine iteK rfl ?_
      refine ⟨fun σ' H' => ∃ m', m' < m ∧ ∃ (rs : List Row) (done : Bool) (o1 o2 o3 o4 o5 : Option V), σ' = [some (.ref a), some (.ref hl), some (.ref e), some (.ref q), some (.bl done), o1, o2, o3, o4, o5] ∧ But q H2 H' ∧ Tab K false U H' q rs ∧ (∀ p n x, RelT rs p n x → Lfp (nams f xs) p n x) ∧
        (∀ r ∈ rs, ∃ n ∈ nams f xs, r.key = (n.who, n.word)) ∧ (done = true → Closed (nams f xs) (RelT rs)) ∧ m' + total rs = 961 + (if done = true then 0 else 1), fun σ' H' z => z, ?_⟩
      walk_at "go"
      have s03 : Same H H3 := But.new s02 w3 nq0
      have ns_at : ∀ {i : Nat} {y : V}, ((nams f xs).map fun n => V.int n.ix)[i]? = some y → ∃ n b' e', (nams f xs)[i]? = some n ∧ y = .int n.ix ∧ n ∈ nams f xs ∧ xs[n.ix]? = some (.nam n.who n.word n.chain b' e') := fun {i y} hy => by
        rw [List.getElem?_map] at hy
        obtain ⟨n, hn, rfl⟩ := Option.map_eq_some_iff.mp hy
        have hm := List.mem_of_getElem? hn
        obtain ⟨b', e', hx, _⟩ := mem_nams.mp hm
        exact ⟨n, b', e', hn, rfl, hm, hx⟩
      refine ⟨⟨_, sq_of (s03 _ _ hh)⟩, for_it (walk_list (xs := (nams f xs).map fun n => V.int n.ix)) (fun i σ H' => ∃ (rs' : List Row) (done : Bool) (o1 o2 o3 o4 o5 : Option V), σ = [some (.ref a), some (.ref hl), some (.ref e), some (.ref q), some (.bl done), o1, o2, o3, o4, o5] ∧ But q H2 H' ∧ Tab K false U H' q rs' ∧
          (∀ p n x, RelT rs' p n x → Lfp (nams f xs) p n x) ∧ (∀ r ∈ rs', ∃ n ∈ nams f xs, r.key = (n.who, n.word)) ∧ (done = true → rs' = rs ∧ ∀ n ∈ (nams f xs).take i, ∀ x, ReachC (RelT rs) n.chain x → RelT rs n.who n.word x) ∧ (done = false → total rs < total rs'))
        ⟨rs, true, o1, o2, o3, o4, o5, rfl, w3, tab3, snd3, key3, fun _ => ⟨rfl, by simp⟩, fun z => (nomatch z)⟩ (fun i σ H' _ ⟨_, _, _, _, _, _, _, _, w, _⟩ => sq_of (But.new s02 w nq0 _ _ hh)) ?_ ?_⟩
      · rintro i y σ _ H4 hi ⟨rs4, done, o1, o2, o3, o4, o5, rfl, w4, tab4, snd4, key4, dy4, dn4⟩ ⟨rfl, hy⟩
        obtain ⟨n, b', e', hn, rfl, hmn, hxn⟩ := ns_at hy
        have s04 : Same H H4 := But.new s02 w4 nq0
        have ha4 := s04 _ _ ha
        obtain ⟨v, hv, hdv⟩ := hdAll_has (hx.same s04) hxn
        obtain ⟨p, pc, ps, rfl, g1, g2, _⟩ := hd_nam hdv
        have okn := okx _ (List.mem_of_getElem? hxn)
        walk_at "go"
        refine ⟨_, _, _, _, rfl, rfl, sq_of ha4, at_nat (by omega) (by simpa using hv), ?_⟩
        walk_at "go"
        refine ⟨p, _, _, _, rfl, rfl, g1, rfl, ?_⟩
        walk_at "go"
        refine ⟨_, _, _, _, rfl, rfl, sq_of ha4, at_nat (by omega) (by simpa using hv), ?_⟩
        walk_at "go"
        refine ⟨p, _, _, _, rfl, rfl, g1, rfl, ?_⟩
        refine ⟨by show 2 ≤ sizeLine; decide, fun b nb => kNew nb fun H5 s5 hb => ?_⟩
        walk_at "go"
        have tab5 := tab4.same s5
        refine ⟨.inr ⟨_, .inl tab5.at_⟩, ?_⟩
        walk_at "go"
        refine ⟨Nat.zero_le _, fun eo neo => kNew neo fun H6 s6 heo => ?_⟩
        have tab6 := tab5.same s6
        obtain ⟨va, vals, ev, hva, mv, av, sv⟩ := tab6.get (e := eo) heo (n.who, n.word)
        have hva : H6 va = some (.lst (vals.map V.str)) := hva
        refine ⟨_, DGet.t tab6.at_ (show H6 b = some (.tup ((pk (n.who, n.word)).map kV)) from s6 _ _ hb), ?_⟩
        rw [ev]
        walk_at "go"
        have s46 := s5.trans s6
        refine ⟨_, _, _, _, rfl, rfl, sq_of (s46 _ _ ha4), at_nat (by omega) (by simpa using hv), ?_⟩
        walk_at "go"
        refine ⟨p, _, _, _, rfl, rfl, sq_t s46 g1, rfl, ?_⟩
        walk_at "go"
        obtain ⟨ok1, ok2, ⟨okc1, okc2, okc3⟩, _⟩ := okn
        refine ⟨q, pc, rs4, U, n.chain, rfl, tab6, hU, sq_t s46 g2, fun z => by rw [z] at okc1; simp at okc1, by omega, fun yl ys H7 s7 nyl hyl ays mys => ?_⟩
        walk_at "go"
        have subU : ∀ x ∈ ys, x ∈ U := fun x hxy => ReachC.last (T := RelT rs4) (U := fun x => x ∈ U) (fun p n x ⟨r, hr, _, hx⟩ => tab4.sub r hr x hx) n.chain x (hd n hmn) ((mys x).mp hxy)
        have lv := nd_le av.nodup sv
        have ly := nd_le ays.nodup subU
        have hva7 := s7 _ _ hva
        refine ⟨⟨_, sq_of hyl⟩, fun D2 nD2 => ?_⟩
        have nyD : yl ≠ D2 := ne_of_none hyl nD2
        have nvD : va ≠ D2 := ne_of_none hva7 nD2
        refine lc_it (walk_list (xs := ys.map V.str)) (fun j H' => But D2 H7 H' ∧ H' D2 = some (.lst (((ys.take j).filter fun x => decide (x ∉ vals)).map V.str))) ⟨upd_but, upd_same⟩ (fun j H' _ ⟨w, _⟩ => sq_of (w _ _ nyD hyl)) ?_ ?_
        · rintro j z _ H8 hj ⟨w8, hD8⟩ ⟨rfl, hz⟩
          rw [List.getElem?_map] at hz
          obtain ⟨x, hx2, rfl⟩ := Option.map_eq_some_iff.mp hz
          refine ⟨rfl, ?_⟩
          walk_at "go"
          refine ⟨va, _, x, vals, rfl, .inl (sq_of (w8 _ _ nvD hva7)), hdAll_strs vals, hd_str x, ?_⟩
          walk_at "go"
          have tk : ys.take (j + 1) = ys.take j ++ [x] := by rw [List.take_add_one, hx2, Option.toList_some]
          have lf : ((ys.take j).filter fun x => decide (x ∉ vals)).length ≤ 40 := Nat.le_trans (List.length_filter_le _ _) (by rw [List.length_take]; omega)
          refine iteD (fun hin => ?_) (fun hin => ?_)
          · refine ⟨_, rfl, _, hD8, by rw [List.length_map]; exact sz_lt (by omega), w8.trans upd_but, ?_⟩
            rw [upd_same, tk, List.filter_append, List.filter_cons_of_pos (by simpa using hin), List.filter_nil, List.map_append]
            rfl
          · refine ⟨w8, ?_⟩
            rw [tk, List.filter_append, List.filter_cons_of_neg (by simpa using hin), List.filter_nil, List.append_nil]
            exact hD8
        · rintro H8 ⟨w8, hD8⟩
          rw [List.length_map, List.take_length] at hD8
          have s78 : Same H7 H8 := But.new (Same.refl H7) w8 nD2
          have s48 := (s46.trans s7).trans s78
          walk_at "go"
          refine ⟨Nat.zero_le _, fun e0 ne0 => kNew ne0 fun H9 s9 he0 => ?_⟩
          have s89 := s9
          refine ⟨ys.filter (fun x => decide (x ∉ vals)), [], hd_strs (sq_of (s9 _ _ hD8)), hd_lst (sq_of he0) hdAll_nil, ?_⟩
          walk_at "go"
          have s49 := s48.trans s9
          have nq4 : H4 q = some (.dT (rs4.map rowKV)) := tab4.at_
          have tab9 := tab4.same s49
          have sound : ∀ x ∈ ys, Lfp (nams f xs) n.who n.word x := fun x hxy => Lfp.closed _ n hmn x (ReachC.mono snd4 _ _ ((mys x).mp hxy))
          refine iteD (fun hne => ?_) (fun hne => ?_)
          · walk_at "go"
            have lm : (ys.filter fun x => decide (x ∉ vals)).length ≤ 40 := Nat.le_trans (List.length_filter_le _ _) (by omega)
            have s79 := s78.trans s9
            refine ⟨va, D2, _, _, rfl, rfl, s79 _ _ hva7, s9 _ _ hD8, sz_of (by rw [List.length_map, List.length_map]; omega), fun ca nca => kNew nca fun H10 s10 hca => ?_⟩
            walk_at "go"
            have mem : ∀ x, x ∈ vals ++ ys.filter (fun x => decide (x ∉ vals)) ↔ x ∈ vals ∨ x ∈ ys := fun x => by
              rw [List.mem_append, List.mem_filter, decide_eq_true_eq]
              exact ⟨fun h => h.imp id And.left, fun h => (Classical.em (x ∈ vals)).imp id fun z => ⟨h.resolve_left z, z⟩⟩
            have ndm : (vals ++ ys.filter fun x => decide (x ∉ vals)).Nodup := List.nodup_append.mpr ⟨av.nodup, ays.nodup.sublist List.filter_sublist, fun x hx y hy e => by
              have z := (List.mem_filter.mp hy).2
              rw [decide_eq_true_eq] at z
              exact z (e ▸ hx)⟩
            have lz := nd_le ndm (m := U) fun x hx => ((mem x).mp hx).elim (sv x) (subU x)
            refine ⟨ca, vals ++ ys.filter (fun x => decide (x ∉ vals)), rfl, by rw [List.map_append]; exact sq_of hca, by omega, fun zs u pm so nu => kNew nu fun H11 s11 hu11 => ?_⟩
            walk_at "go"
            refine ⟨by show 2 ≤ sizeLine; decide, fun tp ntp => kNew ntp fun H12 s12 htp => ?_⟩
            have s4c := ((s49.trans s10).trans s11).trans s12
            refine ⟨tp, _, rfl, st_of htp, rfl, ?_⟩
            refine ⟨_, _, rfl, ?_⟩
            have tab12 := tab4.same s4c
            have hb12 : H12 b = some (.tup ((pk (n.who, n.word)).map kV)) := (((((s6.trans s7).trans s78).trans s9).trans s10).trans s11).trans s12 _ _ hb
            have nq_u : u = q → False := fun z => by rw [z, (tab4.same ((s49.trans s10))).at_] at nu; cases nu
            have tl := tb tab4 key4
            have lr : rs4.length ≤ 24 := by
              have z := nd_le (l := rs4.map (·.key)) (m := (nams f xs).map fun n => (n.who, n.word)) tab4.nd fun y hy => by
                obtain ⟨r, hr, rfl⟩ := List.mem_map.mp hy
                obtain ⟨n, hn, e⟩ := key4 r hr
                exact List.mem_map.mpr ⟨n, hn, e.symm⟩
              rw [List.length_map, List.length_map] at z
              have h3 := namsFrom_len (f := f) xs 0
              unfold nams at z
              omega
            walk_at "go"
            refine ⟨q, _, rfl, DPut.t tab12.at_ hb12 (sz_lt (by rw [List.length_map]; omega)), kPut fun H13 w13 h13 => ?_⟩
            rw [putK_rows rs4 ⟨(n.who, n.word), u, zs⟩] at h13
            have azs : AscS zs := asc_sorted so (pm.nodup_iff.mpr ndm)
            have mzs : ∀ x, x ∈ zs ↔ x ∈ vals ∨ x ∈ ys := fun x => by rw [pm.mem_iff, mem]
            have fne : (ys.filter fun x => decide (x ∉ vals)) ≠ [] := hne
            have lzs : vals.length < zs.length := by
              have z := pm.length_eq
              have z2 := List.length_pos_iff.mpr fne
              rw [List.length_append] at z
              omega
            have more : total rs4 < total (putR rs4 ⟨(n.who, n.word), u, zs⟩) := total_put tab4.nd (fun r hr hk => Nat.lt_of_le_of_lt (nd_le (tab4.asc r hr).nodup fun x hx => (mv x).mpr ⟨r, hr, hk, hx⟩) lzs) (by show 0 < zs.length; omega)
            have tot : total rs < total (putR rs4 ⟨(n.who, n.word), u, zs⟩) := by
              cases done with
              | true => exact Nat.lt_of_le_of_lt (Nat.le_of_eq (by rw [(dy4 rfl).1])) more
              | false => exact Nat.lt_trans (dn4 rfl) more
            refine ⟨_, _, rfl, ?_⟩
            refine ⟨rfl, ?_⟩
            refine ⟨putR rs4 ⟨(n.who, n.word), u, zs⟩, false, _, _, _, _, _, rfl, (w4.same s4c).trans w13, tab12.put w13 h13 (w13 _ _ (fun z => nq_u z) (s12 _ _ hu11)) azs (fun x hx => ((mzs x).mp hx).elim (sv x) (subU x)), fun p' n' x hz => ?_, fun r hr => ?_, fun z => (nomatch z), fun _ => tot⟩
            · rcases relT_put.mp hz with ⟨hk, hx⟩ | ⟨_, h⟩
              · injection hk with e1 e2
                rw [← e1, ← e2]
                rcases (mzs x).mp hx with hx | hx
                · exact snd4 _ _ _ ((mv x).mp hx)
                · exact sound x hx
              · exact snd4 _ _ _ h
            · rcases mem_putR hr with rfl | ⟨h1, _⟩
              · exact ⟨n, hmn, rfl⟩
              · exact key4 r h1
          · walk_at "go"
            have fe : (ys.filter fun x => decide (x ∉ vals)) = [] := Decidable.not_not.mp hne
            refine ⟨rs4, done, _, _, _, _, _, rfl, w4.same s49, tab9, snd4, key4, fun z => ?_, dn4⟩
            obtain ⟨e1, e2⟩ := dy4 z
            refine ⟨e1, fun n' hn' x hx => ?_⟩
            rw [List.take_add_one, hn, Option.toList_some] at hn'
            rcases List.mem_append.mp hn' with hn' | hn'
            · exact e2 n' hn' x hx
            · rw [List.mem_singleton.mp hn'] at hx ⊢
              rw [← e1] at hx ⊢
              have hy := (mys x).mpr hx
              refine (mv x).mp (Classical.byContradiction fun hv => ?_)
              have z2 : x ∈ ys.filter (fun x => decide (x ∉ vals)) := List.mem_filter.mpr ⟨hy, decide_eq_true hv⟩
              rw [fe] at z2
              simp at z2
      · rintro σ H4 ⟨rs4, done, o1, o2, o3, o4, o5, rfl, w4, tab4, snd4, key4, dy4, dn4⟩
        have tl := tb tab4 key4
        have hm' : m + total rs = 962 := hm
        cases done with
        | true =>
          obtain ⟨e1, e2⟩ := dy4 rfl
          rw [List.length_map, List.take_length] at e2
          subst e1
          exact ⟨961 - total rs4, by omega, rs4, true, _, _, _, _, _, rfl, w4, tab4, snd4, key4, fun _ => e2, by show _ = 961 + 0; omega⟩
        | false =>
          have := dn4 rfl
          exact ⟨962 - total rs4, by omega, rs4, false, _, _, _, _, _, rfl, w4, tab4, snd4, key4, fun z => (nomatch z), by show _ = 961 + 1; omega⟩
end
end NC
-- NcLaw5
set_option Elab.async false
set_option linter.all false
set_option maxRecDepth 100000
set_option maxHeartbeats 4000000
namespace NC
local macro_rules | `(tactic| walk_at "go") => `(tactic| (repeat (first
  | (refine ⟨_, rfl, ?_⟩)
  | (refine ⟨_, _, rfl, rfl, ?_⟩)
  | (refine ⟨_, _, rfl, ?_⟩)
  | (refine ⟨_, _, _, rfl, ?_⟩)
  | (refine Or.inl ⟨_, rfl, ?_⟩)
  | (refine iteT ?_)
  | (refine iteF ?_))))
open PySem PySem.Spec PyProof.Rows L2 PySem.W
/-- the last day -/
abbrev last30 : Int := 1000000000000000000000000000000
/-- where something may begin or have ended -/
def marks : List Plain → List Int
  | [] => []
  | .nam _ _ _ b e :: xs => b :: (e + 1) :: marks xs
  | .lev .. :: xs => marks xs
theorem marks_snoc : ∀ (xs : List Plain) (x : Plain), marks (xs ++ [x]) = marks xs ++ marks [x]
  | [], _ => rfl
  | .nam .. :: xs, x => by
    rw [List.cons_append, marks, marks, marks_snoc xs x]
    rfl
  | .lev .. :: xs, x => by
    rw [List.cons_append, marks, marks, marks_snoc xs x]
theorem marks_len : ∀ xs : List Plain, (marks xs).length ≤ 2 * xs.length
  | [] => Nat.le_refl _
  | .nam .. :: xs => by
    have := marks_len xs
    simp only [marks, List.length_cons]
    omega
  | .lev .. :: xs => by
    have := marks_len xs
    simp only [marks, List.length_cons]
    omega
/-- the begins of the stretches on which nothing changes -/
def Begins (xs : List Plain) (ns : List Int) : Prop := AscI ns ∧ ∀ i, i ∈ ns ↔ (i = 0 ∨ i ∈ marks xs) ∧ i ≤ last30
def segs (ns : List Int) : List (Int × Int) := ns.zip ((ns.drop 1).map (· - 1) ++ [last30])
def spSegs (K : PySem.W.Frag) : Sp := fun vs H Q _ => ∃ (a : Addr) (us : List V) (xs : List Plain), vs = [.ref a] ∧ H a = some (.lst us) ∧ HdAll K H us xs ∧ xs.length ≤ 24 ∧
  ∀ q ns (Ts : List Addr) H', Same H H' → H q = none → Begins xs ns → ns.length ≤ 60 → H' q = some (.lst (Ts.map V.ref)) → Ts.length = (segs ns).length → (∀ (j : Nat) T, Ts[j]? = some T → ∃ s, (segs ns)[j]? = some s ∧ H' T = some (.tup [.int s.1, .int s.2])) → Q (.ref q) H'
abbrev NN_law_segments : List Str := ["_law_plains", "_law_marks", "_law_plain", "_law_begins", "_law_mark", "_law_begin"]
theorem sc_law_segments : FnScope NN_law_segments ["_law_plains"] (defScope s_law_segments) := ⟨rfl, rfl, rfl, by decide +kernel, rfl, by decide +kernel, by decide +kernel⟩
section
variable {P : Program} {w : World} {K : PySem.W.Frag} {mg : Str → Option Value} {base : Heap}
-- 0 _law_plains; 1 _law_marks; 2 _law_plain; 3 _law_begins; 4 _law_mark; 5 _law_begin
theorem cal_segments (T : Txt K mg) : Cal P w K mg base 1 "_law_segments" (spSegs K) := by
  refine cal_of T.f_law_segments T.g_law_segments sc_law_segments (fun vs H Q E h => ?_) (fun _ _ _ _ _ _ us hl => match us, hl with | [_], _ => rfl) (fun cdv A outer s H vs Q E hr h => ?_)
  · obtain ⟨a, us, xs, rfl, _⟩ := h
    rfl
  · obtain ⟨a, us, xs, rfl, ha, hx, hn, k⟩ := h
    have nd := sc_law_segments.nd
    have lu := hdAll_len hx
    refine ⟨_, 
      (pss_cons (ps_set (i := 1) nd rfl (Or.inl rfl) (pe_lst (pa_cons pe_int pa_nil)))
      (pss_cons (ps_for PassesOwn.never rfl (pi_list (pv 0)) (pg_name (i := 2) nd rfl (Or.inl rfl)) 
        (pss_one (ps_if (pt_cmpR op_eq (pe_ix ix_tup (pv 2) pe_int (fun _ _ => rfl)) pe_str (nomark _)) 
          (pss_one (ps_set (i := 1) nd rfl (Or.inl rfl) (pe_op op_cat (pv 1) (pe_lst (pa_cons (pe_ix ix_tup (pe_ix ix_tup (pv 2) pe_int (fun _ _ => rfl)) pe_int (fun _ _ => rfl)) (pa_cons (pe_op op_add (pe_ix ix_tup (pe_ix ix_tup (pv 2) pe_int (fun _ _ => rfl)) pe_int (fun _ _ => rfl)) pe_int) pa_nil)))))) pss_nil)))
      (pss_cons (ps_set (i := 3) nd rfl (Or.inl rfl) (bB (cr_sortedMI rfl hr.units) T.n_sorted (pa_cons (bT (cr_setOf rfl) T.n_set (pa_cons (pe_lc (own := [("_law_mark", 4)]) rfl nd (pi_list (pv 1)) (blkOk_by (N := NN_law_segments) (sc := defScope s_law_segments) (by decide +kernel)) (fun _ _ _ _ _ => (pg_name (i := 4) nd rfl (Or.inl rfl))) (fun _ _ _ _ _ => (pts_one (pt_cmpR op_le (pv 4) (pe_powc (r := 1000000000000000000000000000000) (by decide) ⟨by decide, by decide, by decide⟩) (nomark _)))) (fun _ _ _ _ _ => (pv 4))) pa_nil)) pa_nil)))
      (pss_one (ps_ret (pe_listZip rfl (by rfl) T.n_list (by rfl) T.n_zip (pa_cons (pv 3) (pa_cons (pe_op op_cat (pe_lc (own := [("_law_begin", 5)]) rfl nd (pi_list (pe_slice sl_list (pv 3) (po_some pe_int) po_none)) (blkOk_by (N := NN_law_segments) (sc := defScope s_law_segments) (by decide +kernel)) (fun _ _ _ _ _ => (pg_name (i := 5) nd rfl (Or.inl rfl))) (fun _ _ _ _ _ => pts_nil) (fun _ _ _ _ _ => (pe_op op_sub (pv 5) pe_int))) (pe_lst (pa_cons (pe_powc (r := 1000000000000000000000000000000) (by decide) ⟨by decide, by decide, by decide⟩) pa_nil))) pa_nil)))))))), ?_⟩
    walk_at "go"
    refine ⟨by show 1 ≤ sizeLine; decide, fun q nq => kNew nq fun H1 s1 hq => ?_⟩
    walk_at "go"
    refine ⟨⟨_, sq_of (s1 _ _ ha)⟩, for_it (walk_list (xs := us)) (fun i σ H' => ∃ (m : Addr) (o1 o2 o3 o4 : Option V), σ = [some (.ref a), some (.ref m), o1, o2, o3, o4] ∧ Same H H' ∧ H' m = some (.lst ((0 :: marks (xs.take i)).map V.int)))
      ⟨q, none, none, none, none, rfl, s1, hq⟩ (fun i σ H' _ ⟨_, _, _, _, _, _, s, _⟩ => sq_of (s _ _ ha)) ?_ ?_⟩
    · rintro i v σ _ H2 hi ⟨m, o1, o2, o3, o4, rfl, s2, hm⟩ ⟨rfl, hv⟩
      obtain ⟨x, hxi, hd⟩ := hdAll_at (hx.same s2) hv
      have lm := marks_len (xs.take i)
      rw [List.length_take] at lm
      have tk : marks (xs.take (i + 1)) = marks (xs.take i) ++ marks [x] := by rw [List.take_add_one, hxi, Option.toList_some, marks_snoc]
      cases x with
      | nam who word c b0 e0 =>
        obtain ⟨p, pc, ps, rfl, q1, q2, q3⟩ := hd_nam hd
        walk_at "go"
        refine ⟨p, _, _, _, rfl, rfl, q1, rfl, ?_⟩
        walk_at "go"
        refine ⟨rfl, ?_⟩
        walk_at "go"
        refine ⟨p, _, _, _, rfl, rfl, q1, rfl, ?_⟩
        walk_at "go"
        refine ⟨ps, _, _, _, rfl, rfl, q3, rfl, ?_⟩
        walk_at "go"
        refine ⟨p, _, _, _, rfl, rfl, q1, rfl, ?_⟩
        walk_at "go"
        refine ⟨ps, _, _, _, rfl, rfl, q3, rfl, ?_⟩
        walk_at "go"
        refine ⟨by show 2 ≤ sizeLine; decide, fun t nt => kNew nt fun H3 s3 ht => ?_⟩
        walk_at "go"
        refine ⟨m, t, _, _, rfl, rfl, s3 _ _ hm, ht, sz_of (by rw [List.length_map, List.length_cons]; show _ + 2 ≤ _; omega), fun m2 nm2 => kNew nm2 fun H4 s4 hm2 => ?_⟩
        refine ⟨m2, _, _, _, _, rfl, (s2.trans s3).trans s4, ?_⟩
        rw [tk, hm2, List.map_cons, List.map_cons, List.map_append]
        rfl
      | lev who g t1 t2 b0 e0 o =>
        obtain ⟨p, vg, pt, ps, vo, rfl, q1, _⟩ := hd_lev hd
        walk_at "go"
        refine ⟨p, _, _, _, rfl, rfl, q1, rfl, ?_⟩
        walk_at "go"
        refine ⟨rfl, ?_⟩
        walk_at "go"
        refine ⟨m, _, _, _, _, rfl, s2, ?_⟩
        rw [tk]
        simpa [marks] using hm
    · rintro σ H2 ⟨m, o1, o2, o3, o4, rfl, s2, hm⟩
      rw [lu, List.take_length] at hm
      walk_at "go"
      have lm := marks_len xs
      refine ⟨⟨_, sq_of hm⟩, fun D nD => ?_⟩
      have nmD : m ≠ D := ne_of_none hm nD
      refine lc_it (walk_list (xs := (0 :: marks xs).map V.int)) (fun j H' => But D H2 H' ∧ H' D = some (.lst ((((0 :: marks xs).take j).filter fun i => decide (i ≤ last30)).map V.int))) ⟨upd_but, upd_same⟩ (fun j H' _ ⟨w, _⟩ => sq_of (w _ _ nmD hm)) ?_ ?_
      · rintro j z _ H3 hj ⟨w3, hD⟩ ⟨rfl, hz⟩
        rw [List.getElem?_map] at hz
        obtain ⟨i, hi, rfl⟩ := Option.map_eq_some_iff.mp hz
        refine ⟨rfl, ?_⟩
        walk_at "go"
        have tk : (0 :: marks xs).take (j + 1) = (0 :: marks xs).take j ++ [i] := by rw [List.take_add_one, hi, Option.toList_some]
        have lf : (((0 :: marks xs).take j).filter fun i => decide (i ≤ last30)).length ≤ 60 := Nat.le_trans (List.length_filter_le _ _) (by rw [List.length_take, List.length_cons]; omega)
        refine iteD (fun hin => ?_) (fun hin => ?_)
        · refine ⟨_, rfl, _, hD, by rw [List.length_map]; exact sz_lt (by omega), w3.trans upd_but, ?_⟩
          rw [upd_same, tk, List.filter_append, List.filter_cons_of_pos (p := fun i : Int => decide (i ≤ last30)) (decide_eq_true hin), List.filter_nil, List.map_append]
          rfl
        · refine ⟨w3, ?_⟩
          rw [tk, List.filter_append, List.filter_cons_of_neg (p := fun i : Int => decide (i ≤ last30)) (by simpa using hin), List.filter_nil, List.append_nil]
          exact hD
      · rintro H3 ⟨w3, hD⟩
        rw [List.length_map, List.take_length] at hD
        have s3 := s2.trans (But.new (Same.refl H2) w3 nD)
        have lf : ((0 :: marks xs).filter fun i => decide (i ≤ last30)).length ≤ 60 := Nat.le_trans (List.length_filter_le _ _) (by rw [List.length_cons]; omega)
        generalize hfl : ((0 :: marks xs).filter fun i => decide (i ≤ last30)) = fl at hD lf
        walk_at "go"
        refine ⟨D, fl.map Sum.inl, rfl, .inl (by rw [List.map_map]; exact sq_of hD), by rw [List.length_map]; omega, fun sa nsa => kNew nsa fun H4 s4 hsa => ?_⟩
        walk_at "go"
        refine ⟨sa, _, rfl, hsa, fun key hk => ?_, fun ns bl asc mem len nbl => kNew nbl fun H5 s5 hbl => ?_⟩
        · obtain ⟨i, _, rfl⟩ := List.mem_map.mp (mem_once.mp hk)
          exact ⟨i, rfl⟩
        have B : Begins xs ns := ⟨asc, fun i => by
          rw [mem, mem_once, List.mem_map]
          constructor
          · rintro ⟨j, hj, e⟩
            cases e
            rw [← hfl] at hj
            obtain ⟨h1, h2⟩ := List.mem_filter.mp hj
            exact ⟨List.mem_cons.mp h1, of_decide_eq_true h2⟩
          · rintro ⟨h1, h2⟩
            refine ⟨i, ?_, rfl⟩
            rw [← hfl]
            exact List.mem_filter.mpr ⟨List.mem_cons.mpr h1, decide_eq_true h2⟩⟩
        have ln : ns.length ≤ 60 := by
          have z := fold_len (fl.map Sum.inl) []
          rw [List.length_map] at z
          rw [len]
          exact Nat.le_trans z (by simpa using lf)
        have s05 := (s3.trans s4).trans s5
        have nn : ns ≠ [] := fun z => by
          have h := (B.2 0).mpr ⟨.inl rfl, by decide⟩
          rw [z] at h
          simp at h
        walk_at "go"
        refine ⟨bl, ns.map V.int, rfl, sq_of hbl, fun r nr => kNew nr fun H6 s6 hr6 => ?_⟩
        have ec : cutV (ns.map V.int) (some 1) none = (ns.drop 1).map V.int := by
          cases ns with
          | nil => exact absurd rfl nn
          | cons n ns => rw [List.map_cons, cut_tail, List.drop_succ_cons, List.drop_zero]
        rw [ec] at hr6
        walk_at "go"
        refine ⟨⟨_, sq_of hr6⟩, fun D2 nD2 => ?_⟩
        have nrD : r ≠ D2 := ne_of_none hr6 nD2
        refine lc_it (walk_list (xs := (ns.drop 1).map V.int)) (fun j H' => But D2 H6 H' ∧ H' D2 = some (.lst ((((ns.drop 1).take j).map (· - 1)).map V.int))) ⟨upd_but, upd_same⟩ (fun j H' _ ⟨w, _⟩ => sq_of (w _ _ nrD hr6)) ?_ ?_
        · rintro j z _ H7 hj ⟨w7, hD7⟩ ⟨rfl, hz⟩
          rw [List.getElem?_map] at hz
          obtain ⟨i, hi, rfl⟩ := Option.map_eq_some_iff.mp hz
          refine ⟨rfl, ?_⟩
          walk_at "go"
          have tk : (ns.drop 1).take (j + 1) = (ns.drop 1).take j ++ [i] := by rw [List.take_add_one, hi, Option.toList_some]
          refine ⟨_, hD7, by rw [List.length_map, List.length_map, List.length_take, List.length_drop]; exact sz_lt (by omega), w7.trans upd_but, ?_⟩
          rw [upd_same, tk, List.map_append, List.map_append]
          rfl
        · rintro H7 ⟨w7, hD7⟩
          rw [List.length_map, List.take_length] at hD7
          have s67 : Same H6 H7 := But.new (Same.refl H6) w7 nD2
          walk_at "go"
          refine ⟨by show 1 ≤ sizeLine; decide, fun t nt => kNew nt fun H8 s8 ht => ?_⟩
          walk_at "go"
          refine ⟨D2, t, _, _, rfl, rfl, s8 _ _ hD7, ht, sz_of (by rw [List.length_map, List.length_map, List.length_drop]; show _ + 1 ≤ _; omega), fun c nc => kNew nc fun H9 s9 hc => ?_⟩
          have s59 := ((s6.trans s67).trans s8).trans s9
          refine ⟨bl, c, ns.map V.int, ((ns.drop 1).map (· - 1) ++ [last30]).map V.int, rfl, sq_of (s59 _ _ hbl), by rw [List.map_append]; exact sq_of hc, ?_, fun p Ts H10 s10 np lt pr hp => ?_⟩
          · have := List.length_pos_iff.mpr nn
            rw [List.length_map, List.length_append, List.length_map, List.length_map, List.length_drop]
            show _ + 1 = _
            omega
          · have s0 := (s05.trans s59).trans s10
            have lz : (segs ns).length = ns.length := by
              have := List.length_pos_iff.mpr nn
              unfold segs
              rw [List.length_zip, List.length_append, List.length_map, List.length_drop]
              show min _ (_ + 1) = _
              omega
            refine k p ns Ts H10 s0 (by
              cases e : H p with
              | none => rfl
              | some o => rw [(s05.trans s59) _ _ e] at np; cases np) B ln hp (by rw [lt, List.length_map, lz]) fun j T hT => ?_
            obtain ⟨x, y, hx, hy, h⟩ := pr j T hT
            rw [List.getElem?_map] at hx hy
            obtain ⟨i1, e1, rfl⟩ := Option.map_eq_some_iff.mp hx
            obtain ⟨i2, e2, rfl⟩ := Option.map_eq_some_iff.mp hy
            exact ⟨(i1, i2), List.getElem?_zip_eq_some.mpr ⟨e1, e2⟩, h⟩
end
end NC
-- NcLaw6
set_option Elab.async false
set_option linter.all false
set_option maxRecDepth 100000
set_option maxHeartbeats 4000000
namespace NC
local macro_rules | `(tactic| walk_at "go") => `(tactic| (repeat (first
  | (refine ⟨_, rfl, ?_⟩)
  | (refine ⟨_, _, rfl, rfl, ?_⟩)
  | (refine ⟨_, _, rfl, ?_⟩)
  | (refine ⟨_, _, _, rfl, ?_⟩)
  | (refine Or.inl ⟨_, rfl, ?_⟩)
  | (refine iteT ?_)
  | (refine iteF ?_))))
open PySem PySem.Spec PyProof.Rows L2 PySem.W
def spLed (K : PySem.W.Frag) : Sp := fun vs H Q _ => ∃ (a r t : Addr) (us : List V) (ls : List (Line Str)) (c : List Str) (ks : List Nat) (x : Str), vs = [.ref a, .ref r, .ref t] ∧ SqT K H a us ∧ DpAll K H us (ls.map dLine) ∧ SqT K H r (c.map V.str) ∧
  SqT K H t (ks.map fun (k : Nat) => V.int (k : Int)) ∧ LedC ls c ks x ∧ c.length ≤ 20 ∧ ls.length ≤ 10000 ∧ ∀ H', Same H H' → Q (.str x) H'
abbrev NN_law_led : List Str := ["_law_lines", "_law_row", "_law_places", "_law_place", "_law_here", "_law_k", "_law_line"]
theorem sc_law_led : FnScope NN_law_led ["_law_lines", "_law_row", "_law_places"] (defScope s_law_led) := ⟨rfl, rfl, rfl, by decide +kernel, rfl, by decide +kernel, by decide +kernel⟩
section
variable {P : Program} {w : World} {K : PySem.W.Frag} {mg : Str → Option Value} {base : Heap}
-- 0 _law_lines; 1 _law_row; 2 _law_places; 3 _law_place; 4 _law_here; 5 _law_k; 6 _law_line
theorem cal_led (T : Txt K mg) : Cal P w K mg base 2 "_law_led" (spLed K) := by
  have c_law_is_place : Cal P w K mg base 1 "_law_is_place" (spPlace K) := cal_is_place T
  refine cal_of T.f_law_led T.g_law_led sc_law_led (fun vs H Q E h => ?_) (fun _ _ _ _ _ _ us hl => match us, hl with | [_, _, _], _ => rfl) (fun cdv A outer s H vs Q E hr h => ?_)
  · obtain ⟨a, r, t, us, ls, c, ks, x, rfl, _⟩ := h
    rfl
  · obtain ⟨a, r, t, us, ls, c, ks, x, rfl, ha, hls, hrow, ht, led, hc, hll, k⟩ := h
    have nd := sc_law_led.nd
    have lu := dpAll_len hls
    refine ⟨_, 
      (pss_cons (ps_if (PW.pt (pw_or (pt_not (pt_val (bB call_isi T.n_isinstance (pa_cons (pv 2) (pa_cons (pe_bltn (v := .ty "tuple") (by rfl) T.n_tuple (by decide +kernel) rfl) pa_nil))))) (pw_or1 (pt_cmpR op_ne (bB call_len T.n_len (pa_cons (pv 2) pa_nil)) (pe_op op_sub (bB call_len T.n_len (pa_cons (pv 1) pa_nil)) pe_int) (nomark _))))) 
        (pss_one (ps_ret pe_non)) pss_nil)
      (pss_cons (ps_if (pt_cmpR (op_neT (α := (List Int)) hr.units) (pe_lc (own := [("_law_place", 3)]) rfl nd (pi_tup (pv 2)) (blkOk_by (N := NN_law_led) (sc := defScope s_law_led) (by decide +kernel)) (fun _ _ _ _ _ => (pg_name (i := 3) nd rfl (Or.inl rfl))) (fun _ _ _ _ _ => (pts_one (pt_not (pt_val (pe_c c_law_is_place hr (by rfl) (pa_cons (pv 3) (pa_cons (bB (call_lenK (K := K)) T.n_len (pa_cons (pv 0) pa_nil)) pa_nil))))))) (fun _ _ _ _ _ => (pv 3))) (pe_lst pa_nil) (nomark _)) 
        (pss_one (ps_ret pe_non)) pss_nil)
      (pss_cons (ps_set (i := 4) nd rfl (Or.inl rfl) (pe_ix ix_tup (pv 1) pe_int (fun _ _ => rfl)))
      (pss_cons (ps_for PassesOwn.never rfl (pi_range1 (by rfl) T.n_range (pa_cons (bB call_len T.n_len (pa_cons (pv 2) pa_nil)) pa_nil)) (pg_name (i := 5) nd rfl (Or.inl rfl)) 
        (pss_cons (ps_set (i := 6) nd rfl (Or.inl rfl) (pe_ix ix_tup (pv 0) (pe_ix ix_tup (pv 2) (pv 5) (fun _ _ => rfl)) (fun _ _ => rfl)))
        (pss_cons (ps_if (PW.pt (pw_or (pt_cmpR op_ne (pe_ix ix_tup (pv 6) pe_int (fun _ _ => rfl)) (pv 4) (nomark _)) (pw_or1 (pt_cmpR op_ne (pe_ix ix_tup (pv 6) pe_int (fun _ _ => rfl)) (pe_ix ix_tup (pv 1) (pe_op op_add (pv 5) pe_int) (fun _ _ => rfl)) (nomark _))))) 
          (pss_one (ps_ret pe_non)) pss_nil)
        (pss_one (ps_set (i := 4) nd rfl (Or.inl rfl) (pe_ix ix_tup (pv 6) pe_int (fun _ _ => rfl)))))))
      (pss_one (ps_ret (pv 4))))))), ?_⟩
    cases c with
    | nil => exact led.elim
    | cons p0 ns =>
      have led : Led ls p0 ns ks x := led
      have lk := Led.len ns p0 ks x led
      have bd := Led.lt ns p0 ks x led
      rw [List.length_cons] at hc
      walk_at "go"
      refine ⟨_, _, _, _, _, rfl, .ty _, ty_tup ht, kit_tt, ?_⟩
      walk_at "go"
      refine ⟨_, ks.length, rfl, .inr ⟨_, ht, by rw [List.length_map]⟩, ?_⟩
      walk_at "go"
      refine ⟨_, (p0 :: ns).length, rfl, .inr ⟨_, hrow, by rw [List.length_map]⟩, ?_⟩
      walk_at "go"
      refine ⟨rfl, ?_⟩
      walk_at "go"
      refine iteN (by simp; omega) ?_
      walk_at "go"
      refine ⟨⟨_, ht⟩, fun D nD => ?_⟩
      refine lc_it (walk_tup (xs := ks.map fun (k : Nat) => V.int (k : Int))) (fun _ H' => H' = upd H D (.lst [])) rfl (fun _ H' _ h => by rw [h]; exact sq_t (upd_new nD) ht) ?_ ?_
      · rintro i y _ _ hi rfl ⟨rfl, hy⟩
        rw [List.getElem?_map] at hy
        obtain ⟨k0, hk0, rfl⟩ := Option.map_eq_some_iff.mp hy
        have b0 := bd k0 (List.mem_of_getElem? hk0)
        refine ⟨rfl, ?_⟩
        walk_at "go"
        refine ⟨_, us.length, rfl, .inr ⟨_, sq_t (upd_new nD) ha, rfl⟩, ?_⟩
        walk_at "go"
        refine iteN ?_ rfl
        rw [decide_eq_true (by omega : (0 : Int) ≤ (k0 : Int)), decide_eq_true (by omega : (k0 : Int) < (us.length : Int))]
        rfl
      · rintro _ rfl
        walk_at "go"
        refine ⟨Nat.zero_le _, fun e ne => kNew ne fun H1 s1 he => ?_⟩
        have hD : H1 D = some (.lst []) := s1 _ _ upd_same
        have s01 := (upd_new nD).trans s1
        refine ⟨[], [], hd_lst (sq_of hD) hdAll_nil, hd_lst (sq_of he) hdAll_nil, ?_⟩
        walk_at "go"
        refine ⟨r, _, _, _, rfl, rfl, sq_t s01 hrow, (show atI ((p0 :: ns).map V.str) 0 = some (.str p0) from at_nat (Int.le_refl 0) rfl), ?_⟩
        walk_at "go"
        refine ⟨_, ks.length, rfl, .inr ⟨_, sq_t s01 ht, by rw [List.length_map]⟩, ?_⟩
        walk_at "go"
        refine ⟨by omega, by omega, for_range (lo := 0) (n := ks.length) (fun i σ H' => ∃ (y : Str) (o1 o2 o3 : Option V), σ = [some (.ref a), some (.ref r), some (.ref t), o1, some (.str y), o2, o3] ∧ H' = H1 ∧ Led ls y (ns.drop i) (ks.drop i) x)
          ⟨p0, _, _, _, rfl, rfl, led⟩ ?_ ?_⟩
        · rintro i σ H2 hi ⟨y, o1, o2, o3, rfl, rfl, ledi⟩
          have hki : ks[i]? = some ks[i] := List.getElem?_eq_getElem hi
          have hni : ns[i]? = some (ns[i]'(by omega)) := List.getElem?_eq_getElem (by omega)
          have ek : ks.drop i = ks[i] :: ks.drop (i + 1) := List.drop_eq_getElem_cons hi
          have en : ns.drop i = ns[i]'(by omega) :: ns.drop (i + 1) := List.drop_eq_getElem_cons (by omega)
          rw [ek, en] at ledi
          obtain ⟨l, hl, e1, e2, e3⟩ := ledi
          obtain ⟨v, hv, hdv⟩ := dpAll_at (dpAll_same s01 hls) hl
          obtain ⟨p, pa, rfl, g1, _⟩ := dp_line hdv
          have b0 := bd ks[i] (List.getElem_mem hi)
          walk_at "go"
          refine ⟨t, _, _, _, rfl, rfl, sq_t s01 ht, at_nat (by omega) (show (ks.map fun (k : Nat) => V.int (k : Int))[(0 + (i : Int)).toNat]? = some (.int (ks[i] : Int)) by rw [show (0 + (i : Int)).toNat = i by omega, List.getElem?_map, hki]; rfl), ?_⟩
          refine ⟨a, _, _, _, rfl, rfl, sq_t s01 ha, at_nat (by omega) (by simpa using hv), ?_⟩
          walk_at "go"
          refine ⟨p, _, _, _, rfl, rfl, g1, rfl, ?_⟩
          walk_at "go"
          refine ⟨rfl, ?_⟩
          walk_at "go"
          refine iteN (by rw [e1, decide_eq_true rfl]; rfl) ?_
          walk_at "go"
          refine ⟨p, _, _, _, rfl, rfl, g1, rfl, ?_⟩
          walk_at "go"
          refine ⟨r, _, _, _, rfl, rfl, sq_t s01 hrow, at_nat (by omega) (show ((p0 :: ns).map V.str)[(0 + (i : Int) + 1).toNat]? = some (.str (ns[i]'(by omega))) by rw [show (0 + (i : Int) + 1).toNat = i + 1 by omega, List.map_cons, List.getElem?_cons_succ, List.getElem?_map, hni]; rfl), ?_⟩
          walk_at "go"
          refine ⟨rfl, ?_⟩
          walk_at "go"
          refine iteN (by rw [e2, decide_eq_true rfl]; rfl) ?_
          walk_at "go"
          refine ⟨p, _, _, _, rfl, rfl, g1, rfl, ?_⟩
          exact ⟨l.q, _, _, _, rfl, rfl, e3⟩
        · rintro σ H2 ⟨y, o1, o2, o3, rfl, rfl, ledi⟩
          walk_at "go"
          rw [List.drop_of_length_le (Nat.le_refl _), List.drop_of_length_le (by omega)] at ledi
          have e : x = y := ledi
          rw [← e]
          exact k _ s01
end
end NC
-- NcLaw7
set_option Elab.async false
set_option linter.all false
set_option maxRecDepth 100000
set_option maxHeartbeats 4000000
namespace NC
local macro_rules | `(tactic| walk_at "go") => `(tactic| (repeat (first
  | (refine ⟨_, rfl, ?_⟩)
  | (refine ⟨_, _, rfl, rfl, ?_⟩)
  | (refine ⟨_, _, rfl, ?_⟩)
  | (refine ⟨_, _, _, rfl, ?_⟩)
  | (refine Or.inl ⟨_, rfl, ?_⟩)
  | (refine iteT ?_)
  | (refine iteF ?_))))
open PySem PySem.Spec PyProof.Rows L2 PySem.W
def spIsLine (K : PySem.W.Frag) : Sp := fun vs H Q _ => ∃ (a hl t : Addr) (us : List V) (xs : List Plain) (ws : List V) (ls : List (Line Str)) (f : Plain → Bool) (i : Nat) (l : Line Str) (n : Nam Str), vs = [.ref a, .ref hl, .ref t, .int i] ∧ H a = some (.lst us) ∧ HdAll K H us xs ∧ xs.length ≤ 24 ∧ (∀ x ∈ xs, PlainOk x) ∧
  H hl = some (.lst ((nams f xs).map fun n => V.int n.ix)) ∧ SqT K H t ws ∧ DpAll K H ws (ls.map dLine) ∧ ls.length ≤ 10000 ∧ ls[i]? = some l ∧ n ∈ nams f xs ∧ n.ix = l.ix ∧ n.who = l.p ∧ n.word = l.n ∧ LedC (ls.take i) n.chain l.at_ l.q ∧ WordOk l.q ∧ ∀ H', Same H H' → Q (.bl true) H'
theorem cut_take (vs : List V) (i : Nat) (h : i < vs.length) : cutV vs none (some (i : Int)) = vs.take i := by
  unfold cutV
  rw [HT.sIx_none, List.drop_zero, HT.sIx_nat, Nat.sub_zero, Nat.min_eq_left (Nat.le_of_lt h)]
theorem take_new {vs : List V} {i : Nat} (h : i < vs.length) : ¬ (HT.sIx vs.length 0 none = 0 ∧ HT.sIx vs.length vs.length (some (i : Int)) = vs.length) := by
  rw [HT.sIx_nat]
  intro z
  have := z.2
  omega
abbrev NN_law_is_line : List Str := ["_law_plains", "_law_held_here", "_law_lines", "_law_at", "_law_line", "_law_word", "_law_plain"]
theorem sc_law_is_line : FnScope NN_law_is_line ["_law_plains", "_law_held_here", "_law_lines", "_law_at"] (defScope s_law_is_line) := ⟨rfl, rfl, rfl, by decide +kernel, rfl, by decide +kernel, by decide +kernel⟩
section
variable {P : Program} {w : World} {K : PySem.W.Frag} {mg : Str → Option Value} {base : Heap}
-- 0 _law_plains; 1 _law_held_here; 2 _law_lines; 3 _law_at; 4 _law_line; 5 _law_word; 6 _law_plain
theorem cal_is_line (T : Txt K mg) : Cal P w K mg base 3 "_law_is_line" (spIsLine K) := by
  have c_law_is_place : Cal P w K mg base 1 "_law_is_place" (spPlace K) := cal_is_place T
  have c_law_is_word : Cal P w K mg base 1 "_law_is_word" (spWordYes K) := cal_is_word T
  have c_law_led : Cal P w K mg base 2 "_law_led" (spLed K) := cal_led T
  refine cal_of T.f_law_is_line T.g_law_is_line sc_law_is_line (fun vs H Q E h => ?_) (fun _ _ _ _ _ _ us hl => match us, hl with | [_, _, _, _], _ => rfl) (fun cdv A outer s H vs Q E hr h => ?_)
  · obtain ⟨a, hl, t, us, xs, ws, ls, f, i, l, n, rfl, _⟩ := h
    rfl
  · obtain ⟨a, hl, t, us, xs, ws, ls, f, i, l, n, rfl, ha, hx, hn, okx, hh, ht, hls, hll, hi, hmn, e1, e2, e3, led, okq, k⟩ := h
    have nd := sc_law_is_line.nd
    have lw := dpAll_len hls
    have il : i < ls.length := (List.getElem?_eq_some_iff.mp hi).1
    obtain ⟨b', e', hxn, hfn⟩ := mem_nams.mp hmn
    obtain ⟨okw, okn, ⟨okc1, okc2, okc3⟩, _⟩ := okx _ (List.mem_of_getElem? hxn)
    obtain ⟨v, hv, hdv⟩ := dpAll_at hls hi
    obtain ⟨p, pa, rfl, g1, g2⟩ := dp_line hdv
    have lx : n.ix < xs.length := (List.getElem?_eq_some_iff.mp hxn).1
    have lu := hdAll_len hx
    refine ⟨_, 
      (pss_cons (ps_set (i := 4) nd rfl (Or.inl rfl) (pe_ix ix_tup (pv 2) (pv 3) (fun _ _ => rfl)))
      (pss_cons (ps_if (PW.pt (pw_or (pt_not (pt_val (bB call_isi T.n_isinstance (pa_cons (pv 4) (pa_cons (pe_bltn (v := .ty "tuple") (by rfl) T.n_tuple (by decide +kernel) rfl) pa_nil))))) (pw_or (pt_cmpR op_ne (bB call_len T.n_len (pa_cons (pv 4) pa_nil)) pe_int (nomark _)) (pw_or1 (pt_cmpR (op_neT (α := (List Str)) hr.units) (pe_lc (own := [("_law_word", 5)]) rfl nd (pi_tup (pe_slice sl_tupA (pv 4) po_none (po_some pe_int))) (blkOk_by (N := NN_law_is_line) (sc := defScope s_law_is_line) (by decide +kernel)) (fun _ _ _ _ _ => (pg_name (i := 5) nd rfl (Or.inl rfl))) (fun _ _ _ _ _ => (pts_one (pt_not (pt_val (pe_c c_law_is_word hr (by rfl) (pa_cons (pv 5) pa_nil)))))) (fun _ _ _ _ _ => (pv 5))) (pe_lst pa_nil) (nomark _)))))) 
        (pss_one (ps_ret pe_bl)) pss_nil)
      (pss_cons (ps_if (PW.pt (pw_or (pt_not (pt_val (pe_c c_law_is_place hr (by rfl) (pa_cons (pe_ix ix_tup (pv 4) pe_int (fun _ _ => rfl)) (pa_cons (bB call_len T.n_len (pa_cons (pv 0) pa_nil)) pa_nil))))) (pw_or1 (pt_cmpR (op_notInT (α := Int) hr.units) (pe_ix ix_tup (pv 4) pe_int (fun _ _ => rfl)) (pv 1) (by rfl))))) 
        (pss_one (ps_ret pe_bl)) pss_nil)
      (pss_cons (ps_set (i := 6) nd rfl (Or.inl rfl) (pe_ix ix_list (pv 0) (pe_ix ix_tup (pv 4) pe_int (fun _ _ => rfl)) (fun _ _ => rfl)))
      (pss_one (ps_ret (pe_and (pe_cmpR (op_eqT (α := (Str × Str)) hr.units) (pe_tup (pa_cons (pe_ix ix_tup (pv 6) pe_int (fun _ _ => rfl)) (pa_cons (pe_ix ix_tup (pv 6) pe_int (fun _ _ => rfl)) pa_nil))) (pe_tup (pa_cons (pe_ix ix_tup (pv 4) pe_int (fun _ _ => rfl)) (pa_cons (pe_ix ix_tup (pv 4) pe_int (fun _ _ => rfl)) pa_nil))) (nomark _)) (pe_one (pe_cmpR op_eq (pe_c c_law_led hr (by rfl) (pa_cons (pe_slice sl_tupA (pv 2) po_none (po_some (pv 3))) (pa_cons (pe_ix ix_tup (pv 6) pe_int (fun _ _ => rfl)) (pa_cons (pe_ix ix_tup (pv 4) pe_int (fun _ _ => rfl)) pa_nil)))) (pe_ix ix_tup (pv 4) pe_int (fun _ _ => rfl)) (nomark _)))))))))), ?_⟩
    walk_at "go"
    refine ⟨t, _, _, _, rfl, rfl, ht, at_nat (by omega) (by simpa using hv), ?_⟩
    walk_at "go"
    refine ⟨_, _, _, _, _, rfl, .ty _, ty_tup g1, kit_tt, ?_⟩
    walk_at "go"
    refine ⟨_, 5, rfl, .inr ⟨_, g1, rfl⟩, ?_⟩
    walk_at "go"
    refine ⟨rfl, ?_⟩
    walk_at "go"
    refine ⟨p, _, rfl, g1, fun h => absurd (show (0 : Nat) = 0 ∧ (3 : Nat) = 5 from h).2 (by decide), fun _ c nc => kNew nc fun H1 s1 hc => ?_⟩
    have hc : H1 c = some (.tup [.str l.p, .str l.n, .str l.q]) := hc
    walk_at "go"
    have okz : ∀ z ∈ [l.p, l.n, l.q], WordOk z := by
      intro z hz
      simp only [List.mem_cons, List.not_mem_nil, or_false] at hz
      rcases hz with rfl | rfl | rfl
      · exact e2 ▸ okw
      · exact e3 ▸ okn
      · exact okq
    refine ⟨⟨_, st_of hc⟩, fun D nD => ?_⟩
    have ncD : c ≠ D := ne_of_none hc nD
    refine lc_it (walk_tup (xs := [l.p, l.n, l.q].map V.str)) (fun _ H' => But D H1 H' ∧ H' D = some (.lst [])) ⟨upd_but, upd_same⟩ (fun _ H' _ ⟨w, _⟩ => st_of (w _ _ ncD hc)) ?_ ?_
    · rintro j y _ H2 hj ⟨w2, hD⟩ ⟨rfl, hy⟩
      rw [List.getElem?_map] at hy
      obtain ⟨z, hz, rfl⟩ := Option.map_eq_some_iff.mp hy
      refine ⟨rfl, ?_⟩
      walk_at "go"
      refine ⟨okz z (List.mem_of_getElem? hz), fun H3 s3 => ?_⟩
      walk_at "go"
      exact ⟨w2.same s3, s3 _ _ hD⟩
    · rintro H2 ⟨w2, hD⟩
      have s02 := s1.trans (But.new (Same.refl H1) w2 nD)
      walk_at "go"
      refine ⟨Nat.zero_le _, fun eo neo => kNew neo fun H3 s3 heo => ?_⟩
      have s03 := s02.trans s3
      refine ⟨[], [], hd_lst (sq_of (s3 _ _ hD)) hdAll_nil, hd_lst (sq_of heo) hdAll_nil, ?_⟩
      walk_at "go"
      have g13 := sq_t s03 g1
      have ha3 := s03 _ _ ha
      refine ⟨p, _, _, _, rfl, rfl, g13, rfl, ?_⟩
      walk_at "go"
      refine ⟨_, us.length, rfl, .inl ⟨_, sq_of ha3, rfl⟩, ?_⟩
      walk_at "go"
      refine iteN (by rw [decide_eq_true (by omega : (0 : Int) ≤ (l.ix : Int)), decide_eq_true (by omega : (l.ix : Int) < (us.length : Int))]; rfl) ?_
      walk_at "go"
      refine ⟨p, _, _, _, rfl, rfl, g13, rfl, ?_⟩
      walk_at "go"
      refine ⟨hl, _, (l.ix : Int), (nams f xs).map fun n => (n.ix : Int), rfl, .inl (sq_of (s03 _ _ hh)), by have z := hdAll_ints (K := K) (H := H3) ((nams f xs).map fun n => (n.ix : Int)); rw [List.map_map] at z; exact z, hd_int _, ?_⟩
      walk_at "go"
      refine iteN (decide_eq_false fun z => z (List.mem_map.mpr ⟨n, hmn, by rw [e1]⟩)) ?_
      walk_at "go"
      refine ⟨p, _, _, _, rfl, rfl, g13, rfl, ?_⟩
      obtain ⟨v2, hv2, hd2⟩ := hdAll_has (hx.same s03) hxn
      obtain ⟨pp, pc, ps, rfl, q1, q2, _⟩ := hd_nam hd2
      refine ⟨a, _, _, _, rfl, rfl, sq_of ha3, at_nat (by omega) (by rw [← e1]; simpa using hv2), ?_⟩
      walk_at "go"
      refine ⟨pp, _, _, _, rfl, rfl, q1, rfl, ?_⟩
      walk_at "go"
      refine ⟨pp, _, _, _, rfl, rfl, q1, rfl, ?_⟩
      refine ⟨by show 2 ≤ sizeLine; decide, fun u1 nu1 => kNew nu1 fun H4 s4 hu1 => ?_⟩
      walk_at "go"
      refine ⟨p, _, _, _, rfl, rfl, sq_t s4 g13, rfl, ?_⟩
      walk_at "go"
      refine ⟨p, _, _, _, rfl, rfl, sq_t s4 g13, rfl, ?_⟩
      refine ⟨by show 2 ≤ sizeLine; decide, fun u2 nu2 => kNew nu2 fun H5 s5 hu2 => ?_⟩
      have s35 := s4.trans s5
      have s05 := s03.trans s35
      refine ⟨(n.who, n.word), (l.p, l.n), hd_pair (st_of (s5 _ _ hu1)) (hd_str _) (hd_str _), hd_pair (st_of hu2) (hd_str _) (hd_str _), ?_⟩
      walk_at "go"
      refine iteK (decide_eq_true (by rw [e2, e3])) ?_
      walk_at "go"
      refine ⟨t, ws, rfl, sq_t s05 ht, fun h => absurd h (take_new (by omega)), fun _ tk ntk => kNew ntk fun H6 s6 htk => ?_⟩
      rw [cut_take ws i (by omega)] at htk
      have s06 := s05.trans s6
      walk_at "go"
      refine ⟨pp, _, _, _, rfl, rfl, sq_t (s35.trans s6) q1, rfl, ?_⟩
      walk_at "go"
      refine ⟨p, _, _, _, rfl, rfl, sq_t s06 g1, rfl, ?_⟩
      refine ⟨tk, pc, pa, ws.take i, ls.take i, n.chain, l.at_, l.q, rfl, st_of htk, dpAll_take i (dpAll_same s06 hls), sq_t (s35.trans s6) q2, sq_t s06 g2, led, by omega, by rw [List.length_take]; omega, fun H7 s7 => ?_⟩
      walk_at "go"
      refine ⟨p, _, _, _, rfl, rfl, sq_t (s06.trans s7) g1, rfl, ?_⟩
      refine ⟨rfl, ?_⟩
      rw [decide_eq_true rfl]
      exact k _ (s06.trans s7)
end
end NC
-- NcLaw8
set_option Elab.async false
set_option linter.all false
set_option maxRecDepth 100000
set_option maxHeartbeats 4000000
namespace NC
local macro_rules | `(tactic| walk_at "go") => `(tactic| (repeat (first
  | (refine ⟨_, rfl, ?_⟩)
  | (refine ⟨_, _, rfl, rfl, ?_⟩)
  | (refine ⟨_, _, rfl, ?_⟩)
  | (refine ⟨_, _, _, rfl, ?_⟩)
  | (refine Or.inl ⟨_, rfl, ?_⟩)
  | (refine iteT ?_)
  | (refine iteF ?_))))
open PySem PySem.Spec PyProof.Rows L2 PySem.W
abbrev RowD : Type := (Str × Str) × List Str
def RowsOk (rows : List RowD) : Prop := rows.Pairwise (fun a b => DatumOrd.lt a.1 b.1 = true) ∧ ∀ r ∈ rows, WordOk r.1.1 ∧ WordOk r.1.2 ∧ r.2 ≠ [] ∧ AscS r.2 ∧ r.2.length ≤ 40 ∧ ∀ x ∈ r.2, WordOk x
def spRows (K : PySem.W.Frag) : Sp := fun vs H Q _ => ∃ (a : Addr) (us : List V) (rows : List RowD) (U : List Str), vs = [.ref a] ∧ SqT K H a us ∧ DpAll K H us (rows.map dRow) ∧ RowsOk rows ∧ (∀ r ∈ rows, ∀ x ∈ r.2, x ∈ U) ∧ rows.length ≤ 200 ∧
  ∀ q rs H', Same H H' → H q = none → Tab K false U H' q rs → rs.map (fun r => (r.key, r.vals)) = rows → Q (.ref q) H'
theorem DatumOrd.irr {α : Type} [DecidableEq α] [DatumOrd α] (a : α) : ¬ DatumOrd.lt a a = true := by
  rw [← DatumOrd.lt_eq, dataLt_self]
  exact Bool.false_ne_true
theorem ltAt {rows : List RowD} (h : rows.Pairwise (fun a b => DatumOrd.lt a.1 b.1 = true)) {i j : Nat} {a b : RowD} (ha : rows[i]? = some a) (hb : rows[j]? = some b) (ij : i < j) : DatumOrd.lt a.1 b.1 = true := by
  obtain ⟨h1, e1⟩ := List.getElem?_eq_some_iff.mp ha
  obtain ⟨h2, e2⟩ := List.getElem?_eq_some_iff.mp hb
  have z := List.pairwise_iff_getElem.mp h i j h1 h2 ij
  rwa [e1, e2] at z
theorem put_new (rs : List Row) (r : RowD) (l : Addr) (rows : List RowD) (i : Nat) (ers : rs.map (fun r => (r.key, r.vals)) = rows.take i) (hri : rows[i]? = some r) (fresh : ∀ z ∈ rows.take i, z.1 ≠ r.1) : (putR rs ⟨r.1, l, r.2⟩).map (fun r => (r.key, r.vals)) = rows.take (i + 1) := by
  have nh : ¬ hasR rs r.1 = true := fun h => by
    obtain ⟨q, hq, hk⟩ := hasR_iff.mp h
    exact fresh (q.key, q.vals) (by rw [← ers]; exact List.mem_map.mpr ⟨q, hq, rfl⟩) hk
  unfold putR
  rw [if_neg nh, List.map_append, ers, List.take_add_one, hri, Option.toList_some]
  rfl
abbrev NN_law_rows_table : List Str := ["_law_thing", "_law_found", "_law_last", "_law_row", "_law_word"]
theorem sc_law_rows_table : FnScope NN_law_rows_table ["_law_thing"] (defScope s_law_rows_table) := ⟨rfl, rfl, rfl, by decide +kernel, rfl, by decide +kernel, by decide +kernel⟩
section
variable {P : Program} {w : World} {K : PySem.W.Frag} {mg : Str → Option Value} {base : Heap}
-- 0 _law_thing; 1 _law_found; 2 _law_last; 3 _law_row; 4 _law_word
theorem cal_rows_table (T : Txt K mg) : Cal P w K mg base 2 "_law_rows_table" (spRows K) := by
  have c_law_is_word : Cal P w K mg base 1 "_law_is_word" (spWordYes K) := cal_is_word T
  refine cal_of T.f_law_rows_table T.g_law_rows_table sc_law_rows_table (fun vs H Q E h => ?_) (fun _ _ _ _ _ _ us hl => match us, hl with | [_], _ => rfl) (fun cdv A outer s H vs Q E hr h => ?_)
  · obtain ⟨a, us, rows, U, rfl, _⟩ := h
    rfl
  · obtain ⟨a, us, rows, U, rfl, ha, hrs, ok, hU, hn, k⟩ := h
    have nd := sc_law_rows_table.nd
    have hu := hu_of hr
    have lu := dpAll_len hrs
    refine ⟨_, 
      (pss_cons (ps_par (i := 1) (j := 2) rfl nd rfl rfl (by decide) rfl rfl (pa_cons pe_dnewT (pa_cons pe_non pa_nil)) (by rfl))
      (pss_cons (ps_if (pt_not (pt_val (bB call_isi T.n_isinstance (pa_cons (pv 0) (pa_cons (pe_bltn (v := .ty "tuple") (by rfl) T.n_tuple (by decide +kernel) rfl) pa_nil))))) 
        (pss_one (ps_ret pe_non)) pss_nil)
      (pss_cons (ps_for PassesOwn.never rfl (pi_tup (pv 0)) (pg_name (i := 3) nd rfl (Or.inl rfl)) 
        (pss_cons (ps_if (PW.pt (pw_or (pt_not (pt_val (bB call_isi T.n_isinstance (pa_cons (pv 3) (pa_cons (pe_bltn (v := .ty "tuple") (by rfl) T.n_tuple (by decide +kernel) rfl) pa_nil))))) (pw_or (pt_cmpR op_ne (bB call_len T.n_len (pa_cons (pv 3) pa_nil)) pe_int (nomark _)) (pw_or (pt_not (pt_val (bB call_isi T.n_isinstance (pa_cons (pe_ix ix_tup (pv 3) pe_int (fun _ _ => rfl)) (pa_cons (pe_bltn (v := .ty "tuple") (by rfl) T.n_tuple (by decide +kernel) rfl) pa_nil))))) (pw_or1 (pt_cmpR (op_eqT (α := (Tup Str)) hr.units) (pe_ix ix_tup (pv 3) pe_int (fun _ _ => rfl)) (pe_tup pa_nil) (nomark _))))))) 
          (pss_one (ps_ret pe_non)) pss_nil)
        (pss_cons (ps_if (pt_cmpR (op_neT (α := (List Str)) hr.units) (pe_lc (own := [("_law_word", 4)]) rfl nd (pi_tup (pe_op op_catA (pe_tup (pa_cons (pe_ix ix_tup (pv 3) pe_int (fun _ _ => rfl)) (pa_cons (pe_ix ix_tup (pv 3) pe_int (fun _ _ => rfl)) pa_nil))) (pe_ix ix_tup (pv 3) pe_int (fun _ _ => rfl)))) (blkOk_by (N := NN_law_rows_table) (sc := defScope s_law_rows_table) (by decide +kernel)) (fun _ _ _ _ _ => (pg_name (i := 4) nd rfl (Or.inl rfl))) (fun _ _ _ _ _ => (pts_one (pt_not (pt_val (pe_c c_law_is_word hr (by rfl) (pa_cons (pv 4) pa_nil)))))) (fun _ _ _ _ _ => (pv 4))) (pe_lst pa_nil) (nomark _)) 
          (pss_one (ps_ret pe_non)) pss_nil)
        (pss_cons (ps_if (PW.pt (pw_or (pt_cmpR (op_neT (α := (List Str)) hr.units) (bT call_list_of T.n_list (pa_cons (pe_ix ix_tup (pv 3) pe_int (fun _ _ => rfl)) pa_nil)) (bB (cr_sortedM rfl hr.units) T.n_sorted (pa_cons (bT (cr_setOf rfl) T.n_set (pa_cons (pe_ix ix_tup (pv 3) pe_int (fun _ _ => rfl)) pa_nil)) pa_nil)) (nomark _)) (pw_or1 (PW.pt (pw_and (pt_cmpR op_notN (pv 2) pe_non (nomark _)) (pw_and1 (pt_not (pt_cmpR (op_ltT (α := (Str × Str)) hr.units) (pv 2) (pe_tup (pa_cons (pe_ix ix_tup (pv 3) pe_int (fun _ _ => rfl)) (pa_cons (pe_ix ix_tup (pv 3) pe_int (fun _ _ => rfl)) pa_nil))) (nomark _))))))))) 
          (pss_one (ps_ret pe_non)) pss_nil)
        (pss_cons (ps_set (i := 2) nd rfl (Or.inl rfl) (pe_tup (pa_cons (pe_ix ix_tup (pv 3) pe_int (fun _ _ => rfl)) (pa_cons (pe_ix ix_tup (pv 3) pe_int (fun _ _ => rfl)) pa_nil))))
        (pss_one (ps_dput hu (pv 1) (pv 2) (bT call_list_of T.n_list (pa_cons (pe_ix ix_tup (pv 3) pe_int (fun _ _ => rfl)) pa_nil)) rfl)))))))
      (pss_one (ps_ret (pv 1)))))), ?_⟩
    walk_at "go"
    intro q nq
    refine kNew nq fun H1 s1 hq => ?_
    walk_at "go"
    refine ⟨_, _, _, _, _, rfl, .ty _, ty_tup (sq_t s1 ha), kit_tt, ?_⟩
    walk_at "go"
    refine ⟨⟨_, sq_t s1 ha⟩, for_it (walk_tup (xs := us)) (fun i σ H' => ∃ (rs : List Row) (vl : V) (o1 o2 : Option V), σ = [some (.ref a), some (.ref q), some vl, o1, o2] ∧ But q H1 H' ∧ Tab K false U H' q rs ∧ rs.map (fun r => (r.key, r.vals)) = rows.take i ∧
        ((i = 0 ∧ vl = .non) ∨ ∃ r, i ≠ 0 ∧ rows[i - 1]? = some r ∧ Hd K H' vl r.1 ∧ ∃ p, vl = .ref p))
      ⟨[], .non, none, none, rfl, But.refl _ _, tab_nil hq, rfl, .inl ⟨rfl, rfl⟩⟩ (fun i σ H' _ ⟨_, _, _, _, _, w, _⟩ => bt_t w hq rfl (sq_t s1 ha)) ?_ ?_⟩
    · rintro i v σ _ H2 hi ⟨rs, vl, o1, o2, rfl, w2, tab2, ers, last⟩ ⟨rfl, hv⟩
      have hri : rows[i]? = some (rows[i]'(by omega)) := List.getElem?_eq_getElem (by omega)
      generalize rows[i]'(by omega) = r at hri
      obtain ⟨v', hv', hd⟩ := dpAll_at (dpAll_same s1 hrs) hri
      rw [hv] at hv'
      cases hv'
      obtain ⟨p, pa, rfl, g1, g2⟩ := dp_row hd
      have g1 := bt_t w2 hq rfl g1
      have g2 := bt_t w2 hq rfl g2
      obtain ⟨wd1, wd2, ne, asc, l40, wds⟩ := ok.2 r (List.mem_of_getElem? hri)
      walk_at "go"
      refine ⟨_, _, _, _, _, rfl, .ty _, ty_tup g1, kit_tt, ?_⟩
      walk_at "go"
      refine ⟨_, 3, rfl, .inr ⟨_, g1, rfl⟩, ?_⟩
      walk_at "go"
      refine ⟨rfl, ?_⟩
      walk_at "go"
      refine ⟨p, _, _, _, rfl, rfl, g1, rfl, ?_⟩
      walk_at "go"
      refine ⟨_, _, _, _, _, rfl, .ty _, ty_tup g2, kit_tt, ?_⟩
      walk_at "go"
      refine ⟨p, _, _, _, rfl, rfl, g1, rfl, ?_⟩
      walk_at "go"
      refine ⟨by show 0 ≤ sizeLine; decide, fun e ne2 => kNew ne2 fun H3 s3 he => ?_⟩
      have g13 := sq_t s3 g1
      have g23 := sq_t s3 g2
      refine ⟨⟨r.2⟩, ⟨[]⟩, hd_tup g23 (hdAll_strs _), hd_tup (st_of he) hdAll_nil, ?_⟩
      walk_at "go"
      refine iteN (decide_eq_false fun (z : (⟨r.2⟩ : Tup Str) = ⟨[]⟩) => ne (Tup.mk.inj z)) ?_
      walk_at "go"
      refine ⟨p, _, _, _, rfl, rfl, g13, rfl, ?_⟩
      walk_at "go"
      refine ⟨p, _, _, _, rfl, rfl, g13, rfl, ?_⟩
      refine ⟨by show 2 ≤ sizeLine; decide, fun u1 nu1 => kNew nu1 fun H4 s4 hu1 => ?_⟩
      walk_at "go"
      have g14 := sq_t s4 g13
      have g24 := sq_t s4 g23
      have hu1 : H4 u1 = some (.tup [.str r.1.1, .str r.1.2]) := hu1
      refine ⟨p, _, _, _, rfl, rfl, g14, rfl, ?_⟩
      refine ⟨u1, pa, _, _, rfl, rfl, st_of hu1, g24, ?_, fun z => by simp at z, fun _ z => ?_, fun _ _ cc ncc => kNew ncc fun H5 s5 hcc => ?_⟩
      · show 2 + (r.2.map V.str).length ≤ sizeLine
        rw [List.length_map]
        have : (42 : Nat) ≤ sizeLine := by decide
        omega
      · exact absurd (List.map_eq_nil_iff.mp z) ne
      have hcc : H5 cc = some (.tup ((r.1.1 :: r.1.2 :: r.2).map V.str)) := hcc
      have okz : ∀ z ∈ r.1.1 :: r.1.2 :: r.2, WordOk z := by
        intro z hz
        rcases List.mem_cons.mp hz with rfl | hz
        · exact wd1
        rcases List.mem_cons.mp hz with rfl | hz
        · exact wd2
        · exact wds z hz
      walk_at "go"
      refine ⟨⟨_, st_of hcc⟩, fun D nD => ?_⟩
      have ncD : cc ≠ D := ne_of_none hcc nD
      refine lc_it (walk_tup (xs := (r.1.1 :: r.1.2 :: r.2).map V.str)) (fun _ H' => But D H5 H' ∧ H' D = some (.lst [])) ⟨upd_but, upd_same⟩ (fun _ H' _ ⟨w, _⟩ => st_of (w _ _ ncD hcc)) ?_ ?_
      · rintro j y _ H6 hj ⟨w6, hD⟩ ⟨rfl, hy⟩
        rw [List.getElem?_map] at hy
        obtain ⟨z, hz, rfl⟩ := Option.map_eq_some_iff.mp hy
        refine ⟨rfl, ?_⟩
        walk_at "go"
        refine ⟨okz z (List.mem_of_getElem? hz), fun H7 s7 => ?_⟩
        walk_at "go"
        exact ⟨w6.same s7, s7 _ _ hD⟩
      · rintro H6 ⟨w6, hD⟩
        have s56 := But.new (Same.refl H5) w6 nD
        walk_at "go"
        refine ⟨Nat.zero_le _, fun eo neo => kNew neo fun H7 s7 heo => ?_⟩
        refine ⟨[], [], hd_lst (sq_of (s7 _ _ hD)) hdAll_nil, hd_lst (sq_of heo) hdAll_nil, ?_⟩
        walk_at "go"
        have s47 := (s5.trans s56).trans s7
        have g17 := sq_t s47 g14
        have g27 := sq_t s47 g24
        refine ⟨p, _, _, _, rfl, rfl, g17, rfl, ?_⟩
        walk_at "go"
        refine ⟨pa, _, rfl, .inr g27, fun l1 nl1 => kNew nl1 fun H8 s8 hl1 => ?_⟩
        walk_at "go"
        refine ⟨p, _, _, _, rfl, rfl, sq_t s8 g17, rfl, ?_⟩
        walk_at "go"
        refine ⟨pa, r.2.map Sum.inr, rfl, .inr (by rw [List.map_map]; exact sq_t s8 g27), by rw [List.length_map]; omega, fun sa nsa => kNew nsa fun H9 s9 hsa => ?_⟩
        walk_at "go"
        refine ⟨sa, _, rfl, hsa, fun key hk => ?_, fun ys l2 asy mem len nl2 => kNew nl2 fun H10 s10 hl2 => ?_⟩
        · obtain ⟨i, _, rfl⟩ := List.mem_map.mp (mem_once.mp hk)
          exact ⟨i, rfl⟩
        have ey : ys = r.2 := asc_eq asy asc fun z => by
          rw [mem, mem_once, List.mem_map]
          exact ⟨fun ⟨x, hx, e⟩ => by cases e; exact hx, fun h => ⟨z, h, rfl⟩⟩
        subst ey
        have s710 := (s8.trans s9).trans s10
        refine ⟨r.2, r.2, hd_strs (sq_of ((s9.trans s10) _ _ hl1)), hd_strs (sq_of hl2), ?_⟩
        walk_at "go"
        refine iteN (decide_eq_false fun z => z rfl) ?_
        have s010 := ((s3.trans s4).trans s47).trans s710
        have fresh : ∀ z ∈ rows.take i, z.1 ≠ r.1 := fun z hz e => by
          obtain ⟨j, hj⟩ := List.mem_iff_getElem?.mp hz
          rw [List.getElem?_take] at hj
          split at hj
          · rename_i hji
            exact DatumOrd.irr r.1 (by have w := ltAt ok.1 hj hri hji; rwa [e] at w)
          · cases hj
        have lrs : rs.length ≤ 200 := by
          have z := congrArg List.length ers
          rw [List.length_map, List.length_take] at z
          omega
        rcases last with ⟨i0, rfl⟩ | ⟨rp, i0, hrp, hdl, pl, rfl⟩
        · walk_at "go"
          refine ⟨rfl, ?_⟩
          walk_at "go"
          walk_at "go"
          refine ⟨p, _, _, _, rfl, rfl, sq_t s010 g1, rfl, ?_⟩
          walk_at "go"
          refine ⟨p, _, _, _, rfl, rfl, sq_t s010 g1, rfl, ?_⟩
          refine ⟨by show 2 ≤ sizeLine; decide, fun u3 nu3 => kNew nu3 fun H12 s12 hu3 => ?_⟩
          have hu3 : H12 u3 = some (.tup ((pk r.1).map kV)) := hu3
          walk_at "go"
          refine ⟨p, _, _, _, rfl, rfl, sq_t s12 (sq_t s010 g1), rfl, ?_⟩
          walk_at "go"
          refine ⟨pa, _, rfl, .inr (sq_t s12 (sq_t s010 g2)), fun l3 nl3 => kNew nl3 fun H13 s13 hl3 => ?_⟩
          have s0d := (s010).trans (s12.trans s13)
          have tab13 := tab2.same s0d
          walk_at "go"
          refine ⟨q, _, rfl, DPut.t tab13.at_ (s13 _ _ hu3) (sz_lt (by rw [List.length_map]; omega)), kPut fun H14 w14 h14 => ?_⟩
          rw [putK_rows rs ⟨r.1, l3, r.2⟩] at h14
          have nq_l : l3 = q → False := fun z => by rw [z, (tab2.same ((s010).trans s12)).at_] at nl3; cases nl3
          have nq_u : u3 = q → False := fun z => by rw [z, (tab2.same (s010)).at_] at nu3; cases nu3
          refine ⟨putR rs ⟨r.1, l3, r.2⟩, _, _, _, rfl, (w2.same s0d).trans w14, tab13.put w14 h14 (w14 _ _ nq_l hl3) asc (hU r (List.mem_of_getElem? hri)), put_new rs r l3 rows i ers hri fresh, .inr ⟨r, Nat.succ_ne_zero _, hri, hd_pair (st_of (w14 _ _ nq_u (s13 _ _ hu3))) (hd_str _) (hd_str _), _, rfl⟩⟩
        · walk_at "go"
          refine ⟨rfl, ?_⟩
          walk_at "go"
          refine ⟨p, _, _, _, rfl, rfl, sq_t s010 g1, rfl, ?_⟩
          walk_at "go"
          refine ⟨p, _, _, _, rfl, rfl, sq_t s010 g1, rfl, ?_⟩
          refine ⟨by show 2 ≤ sizeLine; decide, fun u2 nu2 => kNew nu2 fun H11 s11 hu2 => ?_⟩
          have s011 := s010.trans s11
          refine ⟨rp.1, r.1, hdl.same s011, hd_pair (st_of hu2) (hd_str _) (hd_str _), ?_⟩
          walk_at "go"
          rw [ltAt ok.1 hrp hri (by omega)]
          walk_at "go"
          refine ⟨p, _, _, _, rfl, rfl, sq_t s011 g1, rfl, ?_⟩
          walk_at "go"
          refine ⟨p, _, _, _, rfl, rfl, sq_t s011 g1, rfl, ?_⟩
          refine ⟨by show 2 ≤ sizeLine; decide, fun u3 nu3 => kNew nu3 fun H12 s12 hu3 => ?_⟩
          have hu3 : H12 u3 = some (.tup ((pk r.1).map kV)) := hu3
          walk_at "go"
          refine ⟨p, _, _, _, rfl, rfl, sq_t s12 (sq_t s011 g1), rfl, ?_⟩
          walk_at "go"
          refine ⟨pa, _, rfl, .inr (sq_t s12 (sq_t s011 g2)), fun l3 nl3 => kNew nl3 fun H13 s13 hl3 => ?_⟩
          have s0d := (s011).trans (s12.trans s13)
          have tab13 := tab2.same s0d
          walk_at "go"
          refine ⟨q, _, rfl, DPut.t tab13.at_ (s13 _ _ hu3) (sz_lt (by rw [List.length_map]; omega)), kPut fun H14 w14 h14 => ?_⟩
          rw [putK_rows rs ⟨r.1, l3, r.2⟩] at h14
          have nq_l : l3 = q → False := fun z => by rw [z, (tab2.same ((s011).trans s12)).at_] at nl3; cases nl3
          have nq_u : u3 = q → False := fun z => by rw [z, (tab2.same (s011)).at_] at nu3; cases nu3
          refine ⟨putR rs ⟨r.1, l3, r.2⟩, _, _, _, rfl, (w2.same s0d).trans w14, tab13.put w14 h14 (w14 _ _ nq_l hl3) asc (hU r (List.mem_of_getElem? hri)), put_new rs r l3 rows i ers hri fresh, .inr ⟨r, Nat.succ_ne_zero _, hri, hd_pair (st_of (w14 _ _ nq_u (s13 _ _ hu3))) (hd_str _) (hd_str _), _, rfl⟩⟩
    · rintro σ H2 ⟨rs, vl, o1, o2, rfl, w2, tab2, ers, last⟩
      rw [lu, List.take_length] at ers
      walk_at "go"
      exact k q rs H2 (But.new s1 w2 nq) nq tab2 ers
end
end NC
-- NcLaw9
set_option Elab.async false
set_option linter.all false
set_option maxRecDepth 100000
set_option maxHeartbeats 4000000
namespace NC
local macro_rules | `(tactic| walk_at "go") => `(tactic| (repeat (first
  | (refine ⟨_, rfl, ?_⟩)
  | (refine ⟨_, _, rfl, rfl, ?_⟩)
  | (refine ⟨_, _, rfl, ?_⟩)
  | (refine ⟨_, _, _, rfl, ?_⟩)
  | (refine Or.inl ⟨_, rfl, ?_⟩)
  | (refine iteT ?_)
  | (refine iteF ?_))))
open PySem PySem.Spec PyProof.Rows L2 PySem.W
def spKeeps (K : PySem.W.Frag) : Sp := fun vs H Q _ => ∃ (a hl q : Addr) (f : Plain → Bool) (us : List V) (xs : List Plain) (U : List Str) (rs : List Row), vs = [.ref a, .ref hl, .ref q] ∧ H a = some (.lst us) ∧ HdAll K H us xs ∧ xs.length ≤ 24 ∧ (∀ x ∈ xs, PlainOk x) ∧
  H hl = some (.lst ((nams f xs).map fun n => V.int n.ix)) ∧ Tab K false U H q rs ∧ U.length ≤ 40 ∧ Closed (nams f xs) (RelT rs) ∧ ∀ H', Same H H' → Q (.bl true) H'
abbrev NN_law_keeps : List Str := ["_law_plains", "_law_held_here", "_law_table", "_law_k", "_law_own", "_law_who"]
theorem sc_law_keeps : FnScope NN_law_keeps ["_law_plains", "_law_held_here", "_law_table"] (defScope s_law_keeps) := ⟨rfl, rfl, rfl, by decide +kernel, rfl, by decide +kernel, by decide +kernel⟩
section
variable {P : Program} {w : World} {K : PySem.W.Frag} {mg : Str → Option Value} {base : Heap}
-- 0 _law_plains; 1 _law_held_here; 2 _law_table; 3 _law_k; 4 _law_own; 5 _law_who
theorem cal_keeps (T : Txt K mg) : Cal P w K mg base 2 "_law_keeps" (spKeeps K) := by
  have c_law_reach : Cal P w K mg base 1 "_law_reach" (spReach K) := cal_reach T
  refine cal_of T.f_law_keeps T.g_law_keeps sc_law_keeps (fun vs H Q E h => ?_) (fun _ _ _ _ _ _ us hl => match us, hl with | [_, _, _], _ => rfl) (fun cdv A outer s H vs Q E hr h => ?_)
  · obtain ⟨a, hl, q, f, us, xs, U, rs, rfl, _⟩ := h
    rfl
  · obtain ⟨a, hl, q, f, us, xs, U, rs, rfl, ha, hx, hn, okx, hh, tab, hU, cl, k⟩ := h
    have nd := sc_law_keeps.nd
    have hu := hu_of hr
    refine ⟨_, 
      (pss_cons (ps_for PassesOwn.never rfl (pi_list (pv 1)) (pg_name (i := 3) nd rfl (Or.inl rfl)) 
        (pss_cons (ps_set (i := 4) nd rfl (Or.inr rfl) (pe_dget2 hu (pv 2) (pe_tup (pa_cons (pe_ix ix_tup (pe_ix ix_list (pv 0) (pv 3) (fun _ _ => rfl)) pe_int (fun _ _ => rfl)) (pa_cons (pe_ix ix_tup (pe_ix ix_list (pv 0) (pv 3) (fun _ _ => rfl)) pe_int (fun _ _ => rfl)) pa_nil))) (pe_lst pa_nil) ⟨by rfl, by rfl, by rfl, by rfl⟩))
        (pss_one (ps_if (pt_cmpR (op_neT (α := (List Str)) hr.units) (pe_lc (own := [("_law_who", 5)]) rfl nd (pi_list (pe_c c_law_reach hr (by rfl) (pa_cons (pv 2) (pa_cons (pe_ix ix_tup (pe_ix ix_list (pv 0) (pv 3) (fun _ _ => rfl)) pe_int (fun _ _ => rfl)) pa_nil)))) (blkOk_by (N := NN_law_keeps) (sc := defScope s_law_keeps) (by decide +kernel)) (fun _ _ _ _ _ => (pg_name (i := 5) nd rfl (Or.inl rfl))) (fun _ _ _ _ _ => (pts_one (pt_cmpR (show OpR _ _ (rInT K Str true) from (op_notInT (α := Str) hr.units)) (pv 5) (pv 4) (by rfl)))) (fun _ _ _ _ _ => (pv 5))) (pe_lst pa_nil) (nomark _)) 
          (pss_one (ps_ret pe_bl)) pss_nil))))
      (pss_one (ps_ret pe_bl))), ?_⟩
    walk_at "go"
    have ns_at : ∀ {i : Nat} {y : V}, ((nams f xs).map fun n => V.int n.ix)[i]? = some y → ∃ n b' e', (nams f xs)[i]? = some n ∧ y = .int n.ix ∧ n ∈ nams f xs ∧ xs[n.ix]? = some (.nam n.who n.word n.chain b' e') := fun {i y} hy => by
      rw [List.getElem?_map] at hy
      obtain ⟨n, hn, rfl⟩ := Option.map_eq_some_iff.mp hy
      have hm := List.mem_of_getElem? hn
      obtain ⟨b', e', hx, _⟩ := mem_nams.mp hm
      exact ⟨n, b', e', hn, rfl, hm, hx⟩
    refine ⟨⟨_, sq_of hh⟩, for_it (walk_list (xs := (nams f xs).map fun n => V.int n.ix)) (fun i σ H' => ∃ (o1 o2 o3 : Option V), σ = [some (.ref a), some (.ref hl), some (.ref q), o1, o2, o3] ∧ Same H H')
      ⟨none, none, none, rfl, Same.refl H⟩ (fun i σ H' _ ⟨_, _, _, _, s⟩ => sq_of (s _ _ hh)) ?_ ?_⟩
    · rintro i y σ _ H4 hi ⟨o1, o2, o3, rfl, s04⟩ ⟨rfl, hy⟩
      obtain ⟨n, b', e', hn, rfl, hmn, hxn⟩ := ns_at hy
      have ha4 := s04 _ _ ha
      obtain ⟨v, hv, hdv⟩ := hdAll_has (hx.same s04) hxn
      obtain ⟨p, pc, ps, rfl, g1, g2, _⟩ := hd_nam hdv
      obtain ⟨ok1, ok2, ⟨okc1, okc2, okc3⟩, _⟩ := okx _ (List.mem_of_getElem? hxn)
      have tab4 := tab.same s04
      walk_at "go"
      refine ⟨.inr ⟨_, .inl tab4.at_⟩, ?_⟩
      walk_at "go"
      refine ⟨_, _, _, _, rfl, rfl, sq_of ha4, at_nat (by omega) (by simpa using hv), ?_⟩
      walk_at "go"
      refine ⟨p, _, _, _, rfl, rfl, g1, rfl, ?_⟩
      walk_at "go"
      refine ⟨_, _, _, _, rfl, rfl, sq_of ha4, at_nat (by omega) (by simpa using hv), ?_⟩
      walk_at "go"
      refine ⟨p, _, _, _, rfl, rfl, g1, rfl, ?_⟩
      refine ⟨by show 2 ≤ sizeLine; decide, fun b nb => kNew nb fun H5 s5 hb => ?_⟩
      walk_at "go"
      have tab5 := tab4.same s5
      refine ⟨Nat.zero_le _, fun eo neo => kNew neo fun H6 s6 heo => ?_⟩
      have tab6 := tab5.same s6
      obtain ⟨va, vals, ev, hva, mv, av, sv⟩ := tab6.get (e := eo) heo (n.who, n.word)
      have hva : H6 va = some (.lst (vals.map V.str)) := hva
      refine ⟨_, DGet.t tab6.at_ (show H6 b = some (.tup ((pk (n.who, n.word)).map kV)) from s6 _ _ hb), ?_⟩
      rw [ev]
      walk_at "go"
      have s46 := s5.trans s6
      refine ⟨_, _, _, _, rfl, rfl, sq_of (s46 _ _ ha4), at_nat (by omega) (by simpa using hv), ?_⟩
      walk_at "go"
      refine ⟨p, _, _, _, rfl, rfl, sq_t s46 g1, rfl, ?_⟩
      walk_at "go"
      refine ⟨q, pc, rs, U, n.chain, rfl, tab6, hU, sq_t s46 g2, fun z => by rw [z] at okc1; simp at okc1, by omega, fun yl ys H7 s7 nyl hyl ays mys => ?_⟩
      walk_at "go"
      have hva7 := s7 _ _ hva
      refine ⟨⟨_, sq_of hyl⟩, fun D2 nD2 => ?_⟩
      have nyD : yl ≠ D2 := ne_of_none hyl nD2
      have nvD : va ≠ D2 := ne_of_none hva7 nD2
      refine lc_it (walk_list (xs := ys.map V.str)) (fun j H' => But D2 H7 H' ∧ H' D2 = some (.lst [])) ⟨upd_but, upd_same⟩ (fun j H' _ ⟨w, _⟩ => sq_of (w _ _ nyD hyl)) ?_ ?_
      · rintro j z _ H8 hj ⟨w8, hD8⟩ ⟨rfl, hz⟩
        rw [List.getElem?_map] at hz
        obtain ⟨x, hx2, rfl⟩ := Option.map_eq_some_iff.mp hz
        refine ⟨rfl, ?_⟩
        walk_at "go"
        refine ⟨va, _, x, vals, rfl, .inl (sq_of (w8 _ _ nvD hva7)), hdAll_strs vals, hd_str x, ?_⟩
        walk_at "go"
        have hin : x ∈ vals := (mv x).mpr (cl n hmn x ((mys x).mp (List.mem_of_getElem? hx2)))
        exact iteN (decide_eq_false fun z => z hin) ⟨w8, hD8⟩
      · rintro H8 ⟨w8, hD8⟩
        have s78 : Same H7 H8 := But.new (Same.refl H7) w8 nD2
        walk_at "go"
        refine ⟨Nat.zero_le _, fun e0 ne0 => kNew ne0 fun H9 s9 he0 => ?_⟩
        refine ⟨[], [], hd_lst (sq_of (s9 _ _ hD8)) hdAll_nil, hd_lst (sq_of he0) hdAll_nil, ?_⟩
        walk_at "go"
        exact s04.trans ((s46.trans s7).trans (s78.trans s9))
    · rintro σ H2 ⟨o1, o2, o3, rfl, s2⟩
      walk_at "go"
      exact k _ s2
end
end NC
-- NcLaw10
set_option Elab.async false
set_option linter.all false
set_option maxRecDepth 100000
set_option maxHeartbeats 4000000
namespace NC
local macro_rules | `(tactic| walk_at "go") => `(tactic| (repeat (first
  | (refine ⟨_, rfl, ?_⟩)
  | (refine ⟨_, _, rfl, rfl, ?_⟩)
  | (refine ⟨_, _, rfl, ?_⟩)
  | (refine ⟨_, _, _, rfl, ?_⟩)
  | (refine Or.inl ⟨_, rfl, ?_⟩)
  | (refine iteT ?_)
  | (refine iteF ?_))))
open PySem PySem.Spec PyProof.Rows L2 PySem.W
def RelD (rows : List RowD) (p n x : Str) : Prop := ∃ r ∈ rows, r.1 = (p, n) ∧ x ∈ r.2
def PaperOk (ns : List (Nam Str)) (c : List Str) (who : Str) : Paper → Prop
  | .yes ls ks => AllRight ns ls ∧ (∀ l ∈ ls, WordOk l.q) ∧ LedC ls c ks who ∧ ls.length ≤ 10000
  | .no rows => RowsOk rows ∧ (∃ U : List Str, U.length ≤ 40 ∧ ∀ r ∈ rows, ∀ x ∈ r.2, x ∈ U) ∧ rows.length ≤ 200 ∧ Closed ns (RelD rows) ∧ ¬ ReachC (RelD rows) c who
def spIsPaper (K : PySem.W.Frag) : Sp := fun vs H Q _ => ∃ (a r : Addr) (s : Int) (who : Str) (v : V) (us : List V) (xs : List Plain) (c : List Str) (p : Paper), vs = [.ref a, .int s, .ref r, .str who, v] ∧ H a = some (.lst us) ∧ HdAll K H us xs ∧ xs.length ≤ 24 ∧ (∀ x ∈ xs, PlainOk x) ∧
  SqT K H r (c.map V.str) ∧ c ≠ [] ∧ c.length ≤ 20 ∧ Dp K H v (dPaper p) ∧ PaperOk (nams (hold true s s) xs) c who p ∧ ∀ H', Same H H' → Q (.bl true) H'
theorem dp_yes {K : PySem.W.Frag} {H : Hp} {v : V} {ls : List (Line Str)} {ks : List Nat} (h : Dp K H v (dPaper (.yes ls ks))) : ∃ p pl pk us, v = .ref p ∧ SqT K H p [.str "yes", .ref pl, .ref pk] ∧ SqT K H pl us ∧ DpAll K H us (ls.map dLine) ∧ SqT K H pk (ks.map fun (k : Nat) => V.int (k : Int)) := by
  unfold dPaper at h
  cases h with
  | tup h1 h2 =>
    cases h2 with
    | cons a1 h2 =>
      cases h2 with
      | cons a2 h2 =>
        cases h2 with
        | cons a3 h2 =>
          cases h2
          cases a1
          cases a2 with
          | tup h3 h4 =>
            obtain ⟨pa, rfl, q⟩ := dp_pl a3
            exact ⟨_, _, pa, _, rfl, h1, h3, h4, q⟩
theorem dp_no {K : PySem.W.Frag} {H : Hp} {v : V} {rows : List RowD} (h : Dp K H v (dPaper (.no rows))) : ∃ p pl us, v = .ref p ∧ SqT K H p [.str "no", .ref pl] ∧ SqT K H pl us ∧ DpAll K H us (rows.map dRow) := by
  unfold dPaper at h
  cases h with
  | tup h1 h2 =>
    cases h2 with
    | cons a1 h2 =>
      cases h2 with
      | cons a2 h2 =>
          cases h2
          cases a1
          cases a2 with
          | tup h3 h4 => exact ⟨_, _, _, rfl, h1, h3, h4⟩
abbrev NN_law_is_paper : List Str := ["_law_plains", "_law_spot_here", "_law_row", "_law_who", "_law_thing", "_law_held_here", "_law_at", "_law_table"]
theorem sc_law_is_paper : FnScope NN_law_is_paper ["_law_plains", "_law_spot_here", "_law_row", "_law_who", "_law_thing"] (defScope s_law_is_paper) := ⟨rfl, rfl, rfl, by decide +kernel, rfl, by decide +kernel, by decide +kernel⟩
section
variable {P : Program} {w : World} {K : PySem.W.Frag} {mg : Str → Option Value} {base : Heap}
-- 0 _law_plains; 1 _law_spot_here; 2 _law_row; 3 _law_who; 4 _law_thing; 5 _law_held_here; 6 _law_at; 7 _law_table
theorem cal_is_paper (T : Txt K mg) : Cal P w K mg base 4 "_law_is_paper" (spIsPaper K) := by
  have c_law_reach : Cal P w K mg base 1 "_law_reach" (spReach K) := cal_reach T
  have c_law_keeps : Cal P w K mg base 2 "_law_keeps" (spKeeps K) := cal_keeps T
  have c_law_held : Cal P w K mg base 1 "_law_held" (spHeld K) := cal_held T
  have c_law_led : Cal P w K mg base 2 "_law_led" (spLed K) := cal_led T
  have c_law_is_line : Cal P w K mg base 3 "_law_is_line" (spIsLine K) := cal_is_line T
  have c_law_rows_table : Cal P w K mg base 2 "_law_rows_table" (spRows K) := cal_rows_table T
  refine cal_of T.f_law_is_paper T.g_law_is_paper sc_law_is_paper (fun vs H Q E h => ?_) (fun _ _ _ _ _ _ us hl => match us, hl with | [_, _, _, _, _], _ => rfl) (fun cdv A outer s H vs Q E hr h => ?_)
  · obtain ⟨a, r, s, who, v, us, xs, c, p, rfl, _⟩ := h
    rfl
  · obtain ⟨a, r, s, who, v, us, xs, c, p, rfl, ha, hx, hn, okx, hrow, hc, hcl, hd, ok, k⟩ := h
    have nd := sc_law_is_paper.nd
    have hu := hu_of hr
    refine ⟨_, 
      (pss_cons (ps_set (i := 5) nd rfl (Or.inl rfl) (pe_c c_law_held hr (by rfl) (pa_cons (pv 0) (pa_cons (pe_tup (pa_cons (pv 1) (pa_cons (pv 1) pa_nil))) (pa_cons pe_bl pa_nil)))))
      (pss_cons (ps_if (PW.pt (pw_or (pt_not (pt_val (bB call_isi T.n_isinstance (pa_cons (pv 4) (pa_cons (pe_bltn (v := .ty "tuple") (by rfl) T.n_tuple (by decide +kernel) rfl) pa_nil))))) (pw_or (pt_cmpR op_lt (bB call_len T.n_len (pa_cons (pv 4) pa_nil)) pe_int (nomark _)) (pw_or1 (pt_not (pt_val (bB call_isi T.n_isinstance (pa_cons (pe_ix ix_tup (pv 4) pe_int (fun _ _ => rfl)) (pa_cons (pe_bltn (v := .ty "str") (by rfl) T.n_str (by decide +kernel) rfl) pa_nil))))))))) 
        (pss_one (ps_ret pe_bl)) pss_nil)
      (pss_cons (ps_if (PW.pt (pw_and (pt_cmpR op_eq (pe_ix ix_tup (pv 4) pe_int (fun _ _ => rfl)) pe_str (nomark _)) (pw_and (pt_cmpR op_eq (bB call_len T.n_len (pa_cons (pv 4) pa_nil)) pe_int (nomark _)) (pw_and1 (pt_val (bB call_isi T.n_isinstance (pa_cons (pe_ix ix_tup (pv 4) pe_int (fun _ _ => rfl)) (pa_cons (pe_bltn (v := .ty "tuple") (by rfl) T.n_tuple (by decide +kernel) rfl) pa_nil)))))))) 
        (pss_cons (ps_for PassesOwn.never rfl (pi_range1 (by rfl) T.n_range (pa_cons (bB call_len T.n_len (pa_cons (pe_ix ix_tup (pv 4) pe_int (fun _ _ => rfl)) pa_nil)) pa_nil)) (pg_name (i := 6) nd rfl (Or.inl rfl)) 
          (pss_one (ps_if (pt_not (pt_val (pe_c c_law_is_line hr (by rfl) (pa_cons (pv 0) (pa_cons (pv 5) (pa_cons (pe_ix ix_tup (pv 4) pe_int (fun _ _ => rfl)) (pa_cons (pv 6) pa_nil))))))) 
            (pss_one (ps_ret pe_bl)) pss_nil)))
        (pss_one (ps_ret (pe_cmpR op_eq (pe_c c_law_led hr (by rfl) (pa_cons (pe_ix ix_tup (pv 4) pe_int (fun _ _ => rfl)) (pa_cons (pv 2) (pa_cons (pe_ix ix_tup (pv 4) pe_int (fun _ _ => rfl)) pa_nil)))) (pv 3) (nomark _))))) pss_nil)
      (pss_cons (ps_set (i := 7) nd rfl (Or.inl rfl) (pe_ifExp (PW.pt (pw_and (pt_cmpR op_eq (pe_ix ix_tup (pv 4) pe_int (fun _ _ => rfl)) pe_str (nomark _)) (pw_and1 (pt_cmpR op_eq (bB call_len T.n_len (pa_cons (pv 4) pa_nil)) pe_int (nomark _))))) (pe_c c_law_rows_table hr (by rfl) (pa_cons (pe_ix ix_tup (pv 4) pe_int (fun _ _ => rfl)) pa_nil)) pe_non))
      (pss_one (ps_ret (pe_and (pe_cmpR op_notN (pv 7) pe_non (nomark _)) (pe_and (pe_c c_law_keeps hr (by rfl) (pa_cons (pv 0) (pa_cons (pv 5) (pa_cons (pv 7) pa_nil)))) (pe_one (pe_cmpR (op_notInT (α := Str) hr.units) (pv 3) (pe_c c_law_reach hr (by rfl) (pa_cons (pv 7) (pa_cons (pv 2) pa_nil))) (by rfl))))))))))), ?_⟩
    walk_at "go"
    refine ⟨by show 2 ≤ sizeLine; decide, fun t nt => kNew nt fun H1 s1 ht => ?_⟩
    walk_at "go"
    refine ⟨a, t, true, us, xs, s, s, rfl, s1 _ _ ha, hx.same s1, hn, st_of ht, fun hl H2 s2 nhl hhl => ?_⟩
    walk_at "go"
    have s02 := s1.trans s2
    cases p with
    | yes ls ks =>
      obtain ⟨p, pl, pk, ws, rfl, q1, q2, q3, q4⟩ := dp_yes (dp_same s02 _ _ hd)
      obtain ⟨ok1, ok2, ok3, ok4⟩ := ok
      refine ⟨_, _, _, _, _, rfl, .ty _, ty_tup q1, kit_tt, ?_⟩
      walk_at "go"
      refine ⟨_, 3, rfl, .inr ⟨_, q1, rfl⟩, ?_⟩
      walk_at "go"
      refine ⟨p, _, _, _, rfl, rfl, q1, rfl, ?_⟩
      walk_at "go"
      refine ⟨_, _, _, _, _, rfl, .ty _, ty_str _, kit_ss, ?_⟩
      walk_at "go"
      refine ⟨p, _, _, _, rfl, rfl, q1, rfl, ?_⟩
      refine ⟨rfl, ?_⟩
      walk_at "go"
      refine ⟨_, 3, rfl, .inr ⟨_, q1, rfl⟩, ?_⟩
      walk_at "go"
      refine ⟨rfl, ?_⟩
      walk_at "go"
      refine ⟨p, _, _, _, rfl, rfl, q1, rfl, ?_⟩
      walk_at "go"
      refine ⟨_, _, _, _, _, rfl, .ty _, ty_tup q2, kit_tt, ?_⟩
      walk_at "go"
      refine ⟨p, _, _, _, rfl, rfl, q1, rfl, ?_⟩
      walk_at "go"
      have lw := dpAll_len q3
      refine ⟨_, ws.length, rfl, .inr ⟨_, q2, rfl⟩, ?_⟩
      walk_at "go"
      refine ⟨by omega, by omega, for_range (lo := 0) (n := ws.length) (fun i σ H' => ∃ (o1 o2 : Option V), σ = [some (.ref a), some (.int s), some (.ref r), some (.str who), some (.ref p), some (.ref hl), o1, o2] ∧ Same H2 H')
        ⟨_, _, rfl, Same.refl _⟩ ?_ ?_⟩
      · rintro i σ H3 hi ⟨o1, o2, rfl, s3⟩
        have s03 := s02.trans s3
        have hli : ls[i]? = some (ls[i]'(by omega)) := List.getElem?_eq_getElem (by omega)
        obtain ⟨l, hl2, n, hmn, e1, e2, e3, led⟩ := ok1 i (by omega)
        walk_at "go"
        refine ⟨p, _, _, _, rfl, rfl, sq_t s3 q1, rfl, ?_⟩
        walk_at "go"
        refine ⟨a, hl, pl, us, xs, ws, ls, hold true s s, i, l, n, by rw [Int.zero_add]; rfl, s03 _ _ ha, hx.same s03, hn, okx, s3 _ _ hhl, sq_t s3 q2, dpAll_same s3 q3, ok4, hl2, hmn, e1, e2, e3, led, ok2 l (List.mem_of_getElem? hl2), fun H4 s4 => ?_⟩
        walk_at "go"
        exact s3.trans s4
      · rintro σ H3 ⟨o1, o2, rfl, s3⟩
        have s03 := s02.trans s3
        walk_at "go"
        refine ⟨p, _, _, _, rfl, rfl, sq_t s3 q1, rfl, ?_⟩
        walk_at "go"
        refine ⟨p, _, _, _, rfl, rfl, sq_t s3 q1, rfl, ?_⟩
        refine ⟨pl, r, pk, ws, ls, c, ks, who, rfl, sq_t s3 q2, dpAll_same s3 q3, sq_t s03 hrow, sq_t s3 q4, ok3, hcl, ok4, fun H4 s4 => ?_⟩
        walk_at "go"
        refine ⟨rfl, ?_⟩
        rw [decide_eq_true rfl]
        exact k _ (s03.trans s4)
    | no rows =>
      obtain ⟨p, pl, ws, rfl, q1, q2, q3⟩ := dp_no (dp_same s02 _ _ hd)
      obtain ⟨ok1, ⟨U, lU, subU⟩, ok2, ok3, ok4⟩ := ok
      refine ⟨_, _, _, _, _, rfl, .ty _, ty_tup q1, kit_tt, ?_⟩
      walk_at "go"
      refine ⟨_, 2, rfl, .inr ⟨_, q1, rfl⟩, ?_⟩
      walk_at "go"
      refine ⟨p, _, _, _, rfl, rfl, q1, rfl, ?_⟩
      walk_at "go"
      refine ⟨_, _, _, _, _, rfl, .ty _, ty_str _, kit_ss, ?_⟩
      walk_at "go"
      refine ⟨p, _, _, _, rfl, rfl, q1, rfl, ?_⟩
      refine ⟨rfl, ?_⟩
      walk_at "go"
      refine ⟨p, _, _, _, rfl, rfl, q1, rfl, ?_⟩
      refine ⟨rfl, ?_⟩
      walk_at "go"
      refine ⟨_, 2, rfl, .inr ⟨_, q1, rfl⟩, ?_⟩
      walk_at "go"
      refine ⟨rfl, ?_⟩
      walk_at "go"
      refine ⟨p, _, _, _, rfl, rfl, q1, rfl, ?_⟩
      refine ⟨pl, ws, rows, U, rfl, q2, q3, ok1, subU, ok2, fun q rs H3 s3 nq tab ers => ?_⟩
      have s03 := s02.trans s3
      have rel : ∀ p n x, RelT rs p n x ↔ RelD rows p n x := fun p n x => by
        rw [← ers]
        exact ⟨fun ⟨r, h1, h2, h3⟩ => ⟨_, List.mem_map.mpr ⟨r, h1, rfl⟩, h2, h3⟩, fun ⟨r, h1, h2, h3⟩ => by
          obtain ⟨r, h4, rfl⟩ := List.mem_map.mp h1
          exact ⟨r, h4, h2, h3⟩⟩
      have cl : Closed (nams (hold true s s) xs) (RelT rs) := fun n hn x h => (rel _ _ _).mpr (ok3 n hn x (ReachC.mono (fun p n x h => (rel p n x).mp h) _ _ h))
      walk_at "go"
      refine ⟨rfl, ?_⟩
      walk_at "go"
      refine ⟨a, hl, q, hold true s s, us, xs, U, rs, rfl, s03 _ _ ha, hx.same s03, hn, okx, s3 _ _ hhl, tab, lU, cl, fun H4 s4 => ?_⟩
      have s04 := s03.trans s4
      walk_at "go"
      refine ⟨q, r, rs, U, c, rfl, tab.same s4, lU, sq_t s04 hrow, hc, hcl, fun yl ys H5 s5 nyl hyl ays mys => ?_⟩
      walk_at "go"
      refine ⟨yl, _, who, ys, rfl, .inl (sq_of hyl), hdAll_strs ys, hd_str who, ?_⟩
      rw [if_pos rfl, decide_eq_true (p := ¬ who ∈ ys) (fun z => ok4 (ReachC.mono (fun p n x h => (rel p n x).mp h) _ _ ((mys who).mp z)))]
      exact k _ (s04.trans s5)
end
end NC
-- NcLaw11
set_option Elab.async false
set_option linter.all false
set_option maxRecDepth 100000
set_option maxHeartbeats 4000000
namespace NC
local macro_rules | `(tactic| walk_at "go") => `(tactic| (repeat (first
  | (refine ⟨_, rfl, ?_⟩)
  | (refine ⟨_, _, rfl, rfl, ?_⟩)
  | (refine ⟨_, _, rfl, ?_⟩)
  | (refine ⟨_, _, _, rfl, ?_⟩)
  | (refine Or.inl ⟨_, rfl, ?_⟩)
  | (refine iteT ?_)
  | (refine iteF ?_))))
open PySem PySem.Spec PyProof.Rows L2 PySem.W
def heads : List Plain → List Str
  | [] => []
  | .nam _ _ c _ _ :: xs => c.take 1 ++ heads xs
  | .lev _ _ _ _ _ _ _ :: xs => heads xs
theorem heads_len : ∀ xs : List Plain, (heads xs).length ≤ xs.length
  | [] => Nat.le_refl _
  | .nam _ _ c _ _ :: xs => by
    have := heads_len xs
    rw [heads, List.length_append, List.length_take, List.length_cons]
    omega
  | .lev _ _ _ _ _ _ _ :: xs => by
    have := heads_len xs
    rw [heads, List.length_cons]
    omega
theorem heads_mem : ∀ {xs : List Plain} {w n : Str} {c : List Str} {b e : Int} {p : Str} {r : List Str}, Plain.nam w n c b e ∈ xs → c = p :: r → p ∈ heads xs
  | .nam w2 n2 c2 b2 e2 :: xs, w, n, c, b, e, p, r, h, hc => by
    rw [heads, List.mem_append]
    rcases List.mem_cons.mp h with h | h
    · cases h
      rw [hc]
      exact .inl (by simp)
    · exact .inr (heads_mem h hc)
  | .lev _ _ _ _ _ _ _ :: xs, w, n, c, b, e, p, r, h, hc => by
    rw [heads]
    rcases List.mem_cons.mp h with h | h
    · cases h
    · exact heads_mem h hc
theorem heads_nams {f : Plain → Bool} {xs : List Plain} : ∀ n ∈ nams f xs, ∀ p r, n.chain = p :: r → p ∈ heads xs := fun n hn p r h => by
  obtain ⟨b, e, hx, _⟩ := mem_nams.mp hn
  exact heads_mem (List.mem_of_getElem? hx) h
/-- may the person be reached on all of the days; on some of them -/
def Rch (all : Bool) (xs : List Plain) (b e : Int) (c : List Str) (who : Str) : Prop := ReachC (Lfp (nams (hold all b e) xs)) c who
def KindV (xs : List Plain) (b e : Int) (c : List Str) (who : Str) (v : V) : Prop := (v = .str "yes" ∧ Rch true xs b e c who) ∨ (v = .non ∧ ¬ Rch true xs b e c who ∧ Rch false xs b e c who) ∨ (v = .str "no" ∧ ¬ Rch true xs b e c who ∧ ¬ Rch false xs b e c who)
def spKind (K : PySem.W.Frag) : Sp := fun vs H Q _ => ∃ (a t r : Addr) (b e : Int) (who : Str) (us : List V) (xs : List Plain) (c : List Str), vs = [.ref a, .ref t, .ref r, .str who] ∧ H a = some (.lst us) ∧ HdAll K H us xs ∧ xs.length ≤ 24 ∧ (∀ x ∈ xs, PlainOk x) ∧
  SqT K H t [.int b, .int e] ∧ SqT K H r (c.map V.str) ∧ c ≠ [] ∧ c.length ≤ 20 ∧ ∀ v H', KindV xs b e c who v → Same H H' → Q v H'
abbrev NN_law_kind_for : List Str := ["_law_plains", "_law_span_here", "_law_row", "_law_who", "_law_some"]
theorem sc_law_kind_for : FnScope NN_law_kind_for ["_law_plains", "_law_span_here", "_law_row", "_law_who"] (defScope s_law_kind_for) := ⟨rfl, rfl, rfl, by decide +kernel, rfl, by decide +kernel, by decide +kernel⟩
section
variable {P : Program} {w : World} {K : PySem.W.Frag} {mg : Str → Option Value} {base : Heap}
-- 0 _law_plains; 1 _law_span_here; 2 _law_row; 3 _law_who; 4 _law_some
theorem cal_kind_for (T : Txt K mg) : Cal P w K mg base 3 "_law_kind_for" (spKind K) := by
  have c_law_reach : Cal P w K mg base 1 "_law_reach" (spReach K) := cal_reach T
  have c_law_held : Cal P w K mg base 1 "_law_held" (spHeld K) := cal_held T
  have c_law_rounds : Cal P w K mg base 2 "_law_rounds" (spRounds K) := cal_rounds T
  refine cal_of T.f_law_kind_for T.g_law_kind_for sc_law_kind_for (fun vs H Q E h => ?_) (fun _ _ _ _ _ _ us hl => match us, hl with | [_, _, _, _], _ => rfl) (fun cdv A outer s H vs Q E hr h => ?_)
  · obtain ⟨a, t, r, b, e, who, us, xs, c, rfl, _⟩ := h
    rfl
  · obtain ⟨a, t, r, b, e, who, us, xs, c, rfl, ha, hx, hn, okx, ht, hrow, hc, hcl, k⟩ := h
    have nd := sc_law_kind_for.nd
    have hu := hu_of hr
    have hl := heads_len xs
    refine ⟨_, 
      (pss_cons (ps_if (pt_cmpR (op_inT (α := Str) hr.units) (pv 3) (pe_c c_law_reach hr (by rfl) (pa_cons (pe_c c_law_rounds hr (by rfl) (pa_cons (pv 0) (pa_cons (pe_c c_law_held hr (by rfl) (pa_cons (pv 0) (pa_cons (pv 1) (pa_cons pe_bl pa_nil)))) (pa_cons pe_dnewT pa_nil)))) (pa_cons (pv 2) pa_nil))) (by rfl)) 
        (pss_one (ps_ret pe_str)) pss_nil)
      (pss_cons (ps_set (i := 4) nd rfl (Or.inl rfl) (pe_c c_law_rounds hr (by rfl) (pa_cons (pv 0) (pa_cons (pe_c c_law_held hr (by rfl) (pa_cons (pv 0) (pa_cons (pv 1) (pa_cons pe_bl pa_nil)))) (pa_cons pe_dnewT pa_nil)))))
      (pss_one (ps_ret (pe_ifExp (pt_cmpR (op_inT (α := Str) hr.units) (pv 3) (pe_c c_law_reach hr (by rfl) (pa_cons (pv 4) (pa_cons (pv 2) pa_nil))) (by rfl)) pe_non pe_str))))), ?_⟩
    walk_at "go"
    refine ⟨a, t, true, us, xs, b, e, rfl, ha, hx, hn, ht, fun h1 H1 s1 nh1 hh1 => ?_⟩
    walk_at "go"
    refine (fun e1 ne1 => kNew ne1 fun H2 s2 he1 => ?_)
    have s02 := s1.trans s2
    refine ⟨a, h1, e1, hold true b e, us, xs, heads xs, rfl, s02 _ _ ha, hx.same s02, hn, okx, s2 _ _ hh1, he1, by omega, heads_nams, fun q1 rs1 H3 s3 nq1 tab1 rel1 => ?_⟩
    have s03 := s02.trans s3
    walk_at "go"
    refine ⟨q1, r, rs1, heads xs, c, rfl, tab1, by omega, sq_t s03 hrow, hc, hcl, fun y1 ys1 H4 s4 ny1 hy1 _ m1 => ?_⟩
    have s04 := s03.trans s4
    walk_at "go"
    have iff1 : who ∈ ys1 ↔ Rch true xs b e c who := (m1 who).trans ⟨ReachC.mono (fun p n x => (rel1 p n x).mp) _ _, ReachC.mono (fun p n x => (rel1 p n x).mpr) _ _⟩
    refine ⟨y1, _, who, ys1, rfl, .inl (sq_of hy1), hdAll_strs ys1, hd_str who, ?_⟩
    walk_at "go"
    refine iteD (fun hin => ?_) (fun hin => ?_)
    · walk_at "go"
      exact k _ _ (.inl ⟨rfl, iff1.mp hin⟩) s04
    · have n1 : ¬ Rch true xs b e c who := fun z => hin (iff1.mpr z)
      walk_at "go"
      refine ⟨a, t, false, us, xs, b, e, rfl, s04 _ _ ha, hx.same s04, hn, sq_t s04 ht, fun h2 H5 s5 nh2 hh2 => ?_⟩
      walk_at "go"
      refine (fun e2 ne2 => kNew ne2 fun H6 s6 he2 => ?_)
      have s06 := (s04.trans s5).trans s6
      refine ⟨a, h2, e2, hold false b e, us, xs, heads xs, rfl, s06 _ _ ha, hx.same s06, hn, okx, s6 _ _ hh2, he2, by omega, heads_nams, fun q2 rs2 H7 s7 nq2 tab2 rel2 => ?_⟩
      have s07 := s06.trans s7
      walk_at "go"
      refine ⟨q2, r, rs2, heads xs, c, rfl, tab2, by omega, sq_t s07 hrow, hc, hcl, fun y2 ys2 H8 s8 ny2 hy2 _ m2 => ?_⟩
      have s08 := s07.trans s8
      walk_at "go"
      have iff2 : who ∈ ys2 ↔ Rch false xs b e c who := (m2 who).trans ⟨ReachC.mono (fun p n x => (rel2 p n x).mp) _ _, ReachC.mono (fun p n x => (rel2 p n x).mpr) _ _⟩
      refine ⟨y2, _, who, ys2, rfl, .inl (sq_of hy2), hdAll_strs ys2, hd_str who, ?_⟩
      walk_at "go"
      refine iteD (fun hin => ?_) (fun hin => ?_)
      · walk_at "go"
        exact k _ _ (.inr (.inl ⟨rfl, n1, iff2.mp hin⟩)) s08
      · walk_at "go"
        exact k _ _ (.inr (.inr ⟨rfl, n1, fun z => hin (iff2.mpr z)⟩)) s08
end
end NC
-- NcSeg
set_option Elab.async false
set_option linter.all false
set_option maxRecDepth 100000
set_option maxHeartbeats 4000000
/-! Where nothing changes, a paper right on the days asked is right on each stretch. -/
namespace NC
open PySem PySem.Spec PyProof.Rows L2 PySem.W
theorem segs_at {ns : List Int} {j : Nat} {s : Int × Int} (h : (segs ns)[j]? = some s) : ns[j]? = some s.1 ∧ (ns[j + 1]? = some (s.2 + 1) ∨ (ns.length = j + 1 ∧ s.2 = last30)) := by
  unfold segs at h
  obtain ⟨h1, h2⟩ := List.getElem?_zip_eq_some.mp h
  refine ⟨h1, ?_⟩
  have hj := (List.getElem?_eq_some_iff.mp h1).1
  by_cases hl : j < ((ns.drop 1).map (· - 1)).length
  · rw [List.getElem?_append_left hl, List.getElem?_map, List.getElem?_drop] at h2
    obtain ⟨y, hy, e⟩ := Option.map_eq_some_iff.mp h2
    left
    rw [show j + 1 = 1 + j by omega, hy, ← e]
    congr 1
    omega
  · rw [List.getElem?_append_right (by omega)] at h2
    have lz : ((ns.drop 1).map (· - 1)).length = ns.length - 1 := by rw [List.length_map, List.length_drop]
    rw [lz] at hl h2
    have e : j - (ns.length - 1) = 0 := by omega
    rw [e] at h2
    right
    refine ⟨by omega, ?_⟩
    have z : some last30 = some s.2 := h2
    exact (Option.some.inj z).symm
theorem ascI_at {ns : List Int} (h : AscI ns) {i j : Nat} {a b : Int} (ha : ns[i]? = some a) (hb : ns[j]? = some b) (ij : i < j) : a < b := by
  obtain ⟨h1, e1⟩ := List.getElem?_eq_some_iff.mp ha
  obtain ⟨h2, e2⟩ := List.getElem?_eq_some_iff.mp hb
  have z := List.pairwise_iff_getElem.mp h i j h1 h2 ij
  rwa [e1, e2] at z
theorem seg_gap {xs : List Plain} {ns : List Int} (B : Begins xs ns) {j : Nat} {s : Int × Int} (h : (segs ns)[j]? = some s) : s.1 ≤ s.2 ∧ s.2 ≤ last30 ∧ s.1 ∈ ns ∧ ∀ m ∈ ns, s.1 < m → s.2 < m := by
  obtain ⟨h1, h2⟩ := segs_at h
  have m1 := List.mem_of_getElem? h1
  have b1 := ((B.2 _).mp m1).2
  rcases h2 with h2 | ⟨h2, h3⟩
  · have z := ascI_at B.1 h1 h2 (Nat.lt_succ_self _)
    have b2 := ((B.2 _).mp (List.mem_of_getElem? h2)).2
    refine ⟨by omega, by omega, m1, fun m hm hlt => ?_⟩
    obtain ⟨k, hk⟩ := List.mem_iff_getElem?.mp hm
    rcases Nat.lt_trichotomy k (j + 1) with g | g | g
    · rcases Nat.lt_or_eq_of_le (Nat.le_of_lt_succ g) with g | g
      · have := ascI_at B.1 hk h1 g
        omega
      · rw [g, h1] at hk
        cases hk
        omega
    · rw [g, h2] at hk
      cases hk
      omega
    · have := ascI_at B.1 h2 hk g
      omega
  · refine ⟨by omega, by omega, m1, fun m hm hlt => ?_⟩
    obtain ⟨k, hk⟩ := List.mem_iff_getElem?.mp hm
    have hkl := (List.getElem?_eq_some_iff.mp hk).1
    rcases Nat.lt_or_eq_of_le (show k ≤ j by omega) with g | g
    · have := ascI_at B.1 hk h1 g
      omega
    · rw [g, h1] at hk
      cases hk
      omega
theorem seg_ord {xs : List Plain} {ns : List Int} (B : Begins xs ns) {i j : Nat} {s t : Int × Int} (hs : (segs ns)[i]? = some s) (ht : (segs ns)[j]? = some t) (ij : i ≤ j) : s.1 ≤ t.1 := by
  rcases Nat.lt_or_eq_of_le ij with g | g
  · exact Int.le_of_lt (ascI_at B.1 (segs_at hs).1 (segs_at ht).1 g)
  · rw [g, ht] at hs
    cases hs
    exact Int.le_refl _
theorem mem_marks : ∀ {xs : List Plain} {w n : Str} {c : List Str} {b e : Int}, Plain.nam w n c b e ∈ xs → b ∈ marks xs ∧ e + 1 ∈ marks xs
  | .nam w2 n2 c2 b2 e2 :: xs, w, n, c, b, e, h => by
    rw [marks]
    rcases List.mem_cons.mp h with h | h
    · cases h
      exact ⟨by simp, by simp⟩
    · obtain ⟨h1, h2⟩ := mem_marks h
      exact ⟨List.mem_cons_of_mem _ (List.mem_cons_of_mem _ h1), List.mem_cons_of_mem _ (List.mem_cons_of_mem _ h2)⟩
  | .lev _ _ _ _ _ _ _ :: xs, w, n, c, b, e, h => by
    rw [marks]
    rcases List.mem_cons.mp h with h | h
    · cases h
    · exact mem_marks h
theorem hold_in {xs : List Plain} {ns : List Int} (B : Begins xs ns) {j : Nat} {s : Int × Int} (h : (segs ns)[j]? = some s) {b e : Int} (h1 : s.1 ≤ e) (h2 : b ≤ s.2) :
    (∀ n ∈ nams (hold true b e) xs, n ∈ nams (hold true s.1 s.1) xs) ∧ ∀ n ∈ nams (hold true s.1 s.1) xs, n ∈ nams (hold false b e) xs := by
  obtain ⟨g1, g2, g3, g4⟩ := seg_gap B h
  refine ⟨fun n hn => ?_, fun n hn => ?_⟩
  · obtain ⟨b0, e0, hx, hf⟩ := mem_nams.mp hn
    refine mem_nams.mpr ⟨b0, e0, hx, ?_⟩
    have m := mem_marks (List.mem_of_getElem? hx)
    simp [hold] at hf ⊢
    obtain ⟨hf1, hf2⟩ := hf
    have bn : b0 ∈ ns := (B.2 _).mpr ⟨.inr m.1, by omega⟩
    refine ⟨Classical.byContradiction fun z => ?_, by omega⟩
    have := g4 b0 bn (by omega)
    omega
  · obtain ⟨b0, e0, hx, hf⟩ := mem_nams.mp hn
    refine mem_nams.mpr ⟨b0, e0, hx, ?_⟩
    have m := mem_marks (List.mem_of_getElem? hx)
    simp [hold] at hf ⊢
    obtain ⟨hf1, hf2⟩ := hf
    refine .inr ⟨by omega, Classical.byContradiction fun z => ?_⟩
    have bn : e0 + 1 ∈ ns := (B.2 _).mpr ⟨.inr m.2, by omega⟩
    have := g4 _ bn (by omega)
    omega
/-- what was told is right for the days asked -/
def Told (xs : List Plain) (b e : Int) (c : List Str) (who : Str) : Option Paper → Prop
  | none => ¬ Rch true xs b e c who ∧ Rch false xs b e c who
  | some (.yes ls ks) => Rch true xs b e c who ∧ AllRight (nams (hold true b e) xs) ls ∧ (∀ l ∈ ls, WordOk l.q) ∧ LedC ls c ks who ∧ ls.length ≤ 10000
  | some (.no rows) => (¬ Rch true xs b e c who ∧ ¬ Rch false xs b e c who) ∧ RowsOk rows ∧ (∃ U : List Str, U.length ≤ 40 ∧ ∀ r ∈ rows, ∀ x ∈ r.2, x ∈ U) ∧ rows.length ≤ 200 ∧ Closed (nams (hold false b e) xs) (RelD rows) ∧ ¬ ReachC (RelD rows) c who
theorem told_ok {xs : List Plain} {ns : List Int} (B : Begins xs ns) {j : Nat} {s : Int × Int} (h : (segs ns)[j]? = some s) {b e : Int} (h1 : s.1 ≤ e) (h2 : b ≤ s.2) {c : List Str} {who : Str} : ∀ {p : Paper}, Told xs b e c who (some p) → PaperOk (nams (hold true s.1 s.1) xs) c who p
  | .yes ls ks, ⟨_, t1, t2, t3, t4⟩ => ⟨t1.more (hold_in B h h1 h2).1, t2, t3, t4⟩
  | .no rows, ⟨_, t1, t2, t3, t4, t5⟩ => ⟨t1, t2, t3, fun n hn x hx => t4 n ((hold_in B h h1 h2).2 n hn) x hx, t5⟩
def dTold : Option Paper → PyData
  | none => .none
  | some p => dPaper p
end NC
-- NcP4
set_option Elab.async false
set_option linter.all false
set_option maxRecDepth 100000
set_option maxHeartbeats 4000000
namespace NC
local macro_rules | `(tactic| walk_at "go") => `(tactic| (repeat (first
  | (refine ⟨_, rfl, ?_⟩)
  | (refine ⟨_, _, rfl, rfl, ?_⟩)
  | (refine ⟨_, _, rfl, ?_⟩)
  | (refine ⟨_, _, _, rfl, ?_⟩)
  | (refine Or.inl ⟨_, rfl, ?_⟩)
  | (refine iteT ?_)
  | (refine iteF ?_))))
open PySem PySem.Spec PyProof.Rows L2 PySem.W
def spRenewed (K : PySem.W.Frag) : Sp := fun vs H Q _ => ∃ (t d : Addr) (ks : List Nat) (kvs : List (Key × V)) (f : Nat → Nat), vs = [.ref t, .ref d] ∧ SqT K H t (intsV ks) ∧ Rd H d (.dK kvs) ∧ (∀ k ∈ ks, valV kvs (Sum.inl (k : Int)) = some (.int (f k : Int))) ∧ ks.length ≤ 20 ∧
  ∀ q H', Same H H' → H q = none → SqT K H' q (intsV (ks.map f)) → Q (.ref q) H'
def spRowsOf (K : PySem.W.Frag) : Sp := fun vs H Q _ => ∃ (d : Addr) (rs : List Row) (U : List Str), vs = [.ref d] ∧ Tab K true U H d rs ∧ rs.length ≤ 24 ∧ (rs.map (·.key)).Pairwise (fun a b => DatumOrd.lt a b = true) ∧
  ∀ q us H', Same H H' → H q = none → SqT K H' q us → DpAll K H' us ((rs.map fun r => ((r.key, r.vals) : RowD)).map dRow) → Q (.ref q) H'
theorem dpAll_app {K : PySem.W.Frag} {H : Hp} : ∀ {us vs : List V} {ds es : List PyData}, DpAll K H us ds → DpAll K H vs es → DpAll K H (us ++ vs) (ds ++ es)
  | [], _, [], _, _, h => h
  | [], _, _ :: _, _, h, _ => by cases h
  | _ :: _, _, [], _, h, _ => by cases h
  | u :: us, vs, d :: ds, es, h, h2 => by
    cases h with
    | cons a b => exact .cons a (dpAll_app b h2)
theorem dpAll_strs {K : PySem.W.Frag} {H : Hp} : ∀ xs : List Str, DpAll K H (xs.map V.str) (xs.map PyData.str)
  | [] => .nil
  | x :: xs => .cons (.str x) (dpAll_strs xs)
theorem noList_rows : ∀ rows : List RowD, noListAll (rows.map dRow) = true
  | [] => rfl
  | r :: rows => by
    rw [List.map_cons]
    show (noList (dRow r) && noListAll (rows.map dRow)) = true
    rw [noList_rows rows, Bool.and_true]
    show (true && (true && (noListAll (r.2.map PyData.str) && true))) = true
    rw [noList_strs]
    rfl
theorem str_asym {a b : Str} (h1 : DatumOrd.lt a b = true) (h2 : DatumOrd.lt b a = true) : False := by
  have h1 : a.cps.toList < b.cps.toList := of_decide_eq_true h1
  have h2 : b.cps.toList < a.cps.toList := of_decide_eq_true h2
  exact List.lt_irrefl _ (List.lt_trans h1 h2)
theorem pair_asym {a b : Str × Str} (h1 : DatumOrd.lt a b = true) (h2 : DatumOrd.lt b a = true) : False := by
  have h1 : (if a.1 = b.1 then DatumOrd.lt a.2 b.2 else DatumOrd.lt a.1 b.1) = true := h1
  have h2 : (if b.1 = a.1 then DatumOrd.lt b.2 a.2 else DatumOrd.lt b.1 a.1) = true := h2
  by_cases e : a.1 = b.1
  · rw [if_pos e] at h1
    rw [if_pos e.symm] at h2
    exact str_asym h1 h2
  · rw [if_neg e] at h1
    rw [if_neg (Ne.symm e)] at h2
    exact str_asym h1 h2
theorem none_of {H H' : Hp} (s : Same H H') {a : Addr} (h : H' a = none) : H a = none := by
  cases e : H a with
  | none => rfl
  | some o => rw [s _ _ e] at h; cases h
abbrev NN_renewed : List Str := ["places", "new", "place"]
theorem sc_renewed : FnScope NN_renewed ["places", "new"] (defScope s_renewed) := ⟨rfl, rfl, rfl, by decide +kernel, rfl, by decide +kernel, by decide +kernel⟩
abbrev NN_rows_of : List Str := ["table", "pair"]
theorem sc_rows_of : FnScope NN_rows_of ["table"] (defScope s_rows_of) := ⟨rfl, rfl, rfl, by decide +kernel, rfl, by decide +kernel, by decide +kernel⟩
section
variable {P : Program} {w : World} {K : PySem.W.Frag} {mg : Str → Option Value} {base : Heap}
-- 0 places; 1 new; 2 place
theorem cal_renewed (T : Txt K mg) : Cal P w K mg base 1 "renewed" (spRenewed K) := by
  refine cal_of T.f_renewed T.g_renewed sc_renewed (fun vs H Q E h => ?_) (fun _ _ _ _ _ _ us hl => match us, hl with | [_, _], _ => rfl) (fun cdv A outer s H vs Q E hr h => ?_)
  · obtain ⟨t, d, ks, kvs, f, rfl, _⟩ := h
    rfl
  · obtain ⟨t, d, ks, kvs, f, rfl, ht, hd, hv, hl, k⟩ := h
    have nd := sc_renewed.nd
    have hu := hu_of hr
    refine ⟨_, 
      (pss_one (ps_ret (bT call_tuple_of T.n_tuple (pa_cons (pe_lc (own := [("place", 2)]) rfl nd (pi_tup (pv 0)) (blkOk_by (N := NN_renewed) (sc := defScope s_renewed) (by decide +kernel)) (fun _ _ _ _ _ => (pg_name (i := 2) nd rfl (Or.inl rfl))) (fun _ _ _ _ _ => pts_nil) (fun _ _ _ _ _ => (pe_dget hu (pv 1) (pv 2) (fun _ _ => rfl)))) pa_nil)))), ?_⟩
    walk_at "go"
    refine ⟨⟨_, ht⟩, fun D nD => ?_⟩
    have rdN : ∀ {H'}, But D H H' → Rd H' d (.dK kvs) := fun {H'} w => hd.imp (fun h => w _ _ (ne_of_none h nD) h) (fun ⟨o, h⟩ => ⟨o, w _ _ (ne_of_none h nD) h⟩)
    refine lc_it (walk_tup (xs := intsV ks)) (fun i H' => But D H H' ∧ H' D = some (.lst (intsV ((ks.take i).map f)))) ⟨upd_but, upd_same⟩ (fun i H' _ ⟨w, _⟩ => sq_t (But.new (Same.refl H) w nD) ht) ?_ ?_
    · rintro i y _ H1 hi ⟨w1, hD⟩ ⟨rfl, hy⟩
      unfold intsV at hy
      rw [List.getElem?_map] at hy
      obtain ⟨n, hn, rfl⟩ := Option.map_eq_some_iff.mp hy
      refine ⟨rfl, ?_⟩
      walk_at "go"
      refine ⟨d, _, rfl, .inl ⟨kvs, .inl (n : Int), rdN w1, rfl, (hv n (List.mem_of_getElem? hn)).symm⟩, ?_⟩
      refine ⟨_, hD, by unfold intsV; rw [List.length_map, List.length_map, List.length_take]; exact sz_lt (by omega), w1.trans upd_but, ?_⟩
      rw [upd_same, List.take_add_one, hn, Option.toList_some, List.map_append]
      unfold intsV
      rw [List.map_append]
      rfl
    · rintro H1 ⟨w1, hD⟩
      unfold intsV at hD
      rw [List.length_map, List.take_length] at hD
      walk_at "go"
      have s01 : Same H H1 := But.new (Same.refl H) w1 nD
      exact ⟨D, _, rfl, .inl ⟨sq_of hD, fun l nl => kNew nl fun H2 s2 hl2 => k l H2 (s01.trans s2) (none_of s01 nl) (st_of hl2)⟩⟩
-- 0 table; 1 pair
theorem cal_rows_of (T : Txt K mg) : Cal P w K mg base 1 "rows_of" (spRowsOf K) := by
  refine cal_of T.f_rows_of T.g_rows_of sc_rows_of (fun vs H Q E h => ?_) (fun _ _ _ _ _ _ us hl => match us, hl with | [_], _ => rfl) (fun cdv A outer s H vs Q E hr h => ?_)
  · obtain ⟨d, rs, U, rfl, _⟩ := h
    rfl
  · obtain ⟨d, rs, U, rfl, tab, hl, pw, k⟩ := h
    have nd := sc_rows_of.nd
    have hu := hu_of hr
    refine ⟨_, 
      (pss_one (ps_ret (bT call_tuple_of T.n_tuple (pa_cons (pe_lc (own := [("pair", 1)]) rfl nd (pi_list (bB (cr_sortedP2 rfl hr.units) T.n_sorted (pa_cons (pv 0) pa_nil))) (blkOk_by (N := NN_rows_of) (sc := defScope s_rows_of) (by decide +kernel)) (fun _ _ _ _ _ => (pg_name (i := 1) nd rfl (Or.inl rfl))) (fun _ _ _ _ _ => pts_nil) (fun _ _ _ _ _ => (pe_tup (show PA _ _ (StX.tStar K _ _) from (StX.pa_star (pv 1) (pa_cons (pe_dget hu (pv 0) (pv 1) (fun _ _ => rfl)) pa_nil)))))) pa_nil)))), ?_⟩
    walk_at "go"
    refine ⟨d, rs.map rowKV, rs.map (·.key), rfl, .inl tab.at_, by rw [List.map_map, List.map_map]; rfl, fun rows l pm up hrows nl => kNew nl fun H1 s1 hl1 => ?_⟩
    walk_at "go"
    have er : rows.map (·.2) = rs.map (·.key) := pm.eq_of_pairwise (le := fun a b => DatumOrd.lt a b = true) (fun a b _ _ h1 h2 => (pair_asym h1 h2).elim) (up_pairs up (pm.nodup_iff.mpr tab.nd)) pw
    have lr : rows.length = rs.length := by
      have z := congrArg List.length er
      rwa [List.length_map, List.length_map] at z
    have tab1 := tab.same s1
    refine ⟨⟨_, sq_of hl1⟩, fun D nD => ?_⟩
    have nlD : l ≠ D := ne_of_none hl1 nD
    refine lc_it (walk_list (xs := rows.map fun r => .ref r.1)) (fun i H' => But D H1 H' ∧ ∃ us, H' D = some (.lst us) ∧ us.length = min i rs.length ∧ DpAll K H' us (((rs.take i).map fun r => ((r.key, r.vals) : RowD)).map dRow)) ⟨upd_but, [], upd_same, by simp, .nil⟩ (fun i H' _ ⟨w, _⟩ => sq_of (w _ _ nlD hl1)) ?_ ?_
    · rintro i y _ H2 hi ⟨w2, us, hD, lus, hall⟩ ⟨rfl, hy⟩
      rw [List.getElem?_map] at hy
      obtain ⟨⟨ad, pr⟩, hrow, rfl⟩ := Option.map_eq_some_iff.mp hy
      have s12 : Same H1 H2 := But.new (Same.refl H1) w2 nD
      have hpr : H2 ad = some (.tup [.str pr.1, .str pr.2]) := (s1.trans s12) _ _ (hrows _ (List.mem_of_getElem? hrow))
      obtain ⟨r, hri, rfl⟩ : ∃ r, rs[i]? = some r ∧ r.key = pr := by
        have z : (rows.map (·.2))[i]? = some pr := by rw [List.getElem?_map, hrow]; rfl
        rw [er, List.getElem?_map] at z
        exact Option.map_eq_some_iff.mp z
      have hrm := List.mem_of_getElem? hri
      have tab2 := tab1.same s12
      refine ⟨rfl, ?_⟩
      walk_at "go"
      refine ⟨ad, _, rfl, .inl (st_of hpr), ?_⟩
      walk_at "go"
      refine ⟨d, _, rfl, .inr ⟨_, _, ad, .inl tab2.at_, rfl, (show H2 ad = some (.tup ((pk r.key).map kV)) from hpr), (valV_key tab.nd hrm).symm⟩, ?_⟩
      walk_at "go"
      refine ⟨by show 3 ≤ sizeLine; decide, fun p np => kNew np fun H3 s3 hp => ?_⟩
      have hD3 := s3 _ _ hD
      have hp : H3 p = some (.tup [.str r.key.1, .str r.key.2, .ref r.at_]) := hp
      have hv3 : SqT K H3 r.at_ (r.vals.map V.str) := sq_t s3 (tab2.val r hrm)
      refine ⟨us, hD3, sz_lt (by rw [lus]; omega), (w2.same s3).trans upd_but, us ++ [.ref p], upd_same, ?_, ?_⟩
      · have := (List.getElem?_eq_some_iff.mp hri).1
        rw [List.length_append, lus]
        show _ + 1 = _
        omega
      · rw [List.take_add_one, hri, Option.toList_some, List.map_append, List.map_append]
        refine dp_butFAll upd_but hD3 rfl _ _ ?_ (dpAll_app (dpAll_same s3 hall) ?_)
        · rw [← List.map_append]
          exact noList_rows _
        · exact .cons (.tup (st_of hp) (.cons (.str _) (.cons (.str _) (.cons (.tup hv3 (dpAll_strs _)) .nil)))) .nil
    · rintro H2 ⟨w2, us, hD, lus, hall⟩
      walk_at "go"
      have s02 : Same H H2 := s1.trans (But.new (Same.refl H1) w2 nD)
      rw [List.length_map, lr, List.take_length] at hall
      exact ⟨D, _, rfl, .inl ⟨sq_of hD, fun l nl => kNew nl fun H3 s3 hl3 => k l us H3 (s02.trans s3) (none_of s02 nl) (st_of hl3) (dpAll_same s3 hall)⟩⟩
end
end NC
-- NcDc
set_option Elab.async false
set_option linter.all false
set_option maxRecDepth 100000
set_option maxHeartbeats 4000000
/-! A dict comprehension over anything walked. -/
namespace NC
open PySem PySem.Spec PyProof.Rows L2 PySem.W
theorem dc_it {J : It} {n : Nat} {G : Hp → Prop} {Y : Nat → Hp → V → Hp → Prop} (w : Walk J n G Y) {g : TG} {tt : TT} {tk tv : TE} {vs : List Nat} {σ : L2.St} {H1 : Hp} {D : Addr} {Qd : Hp → Prop} (Pv : Nat → Hp → Prop) (h0 : Pv 0 (upd H1 D (.dK []))) (hG : ∀ i H, i ≤ n → Pv i H → G H)
    (hs : ∀ i x H H', i < n → Pv i H → Y i H x H' → g x (wipe σ vs) H' fun σ2 H2 => wipe σ2 vs = wipe σ vs ∧ tt σ2 H2 fun b H3 =>
      if b = true then tk σ2 H3 fun y H4 => tv σ2 H4 fun z H5 => ∃ kvs k, y = kV k ∧ H5 D = some (.dK kvs) ∧ kvs.length < sizeLine ∧ Pv (i + 1) (upd H5 D (.dK (putK kvs k z))) else Pv (i + 1) H3) (hd : ∀ H, Pv n H → Qd H) :
    ∃ W : Nat → Nat → Hp → Prop, (∃ m, W 0 m (upd H1 D (.dK []))) ∧ ∀ i m H, W i m H →
      (J.stop i H ∧ Qd H) ∨ (J.go i H ∧ ∃ Nx : Hp → Prop, (∀ H', Nx H' → ∃ m', m' < m ∧ W (i + 1) m' H') ∧ ∀ x H', J.yld i H x H' → g x (wipe σ vs) H' fun σ2 H2 => wipe σ2 vs = wipe σ vs ∧ tt σ2 H2 fun b H3 =>
        if b = true then tk σ2 H3 fun y H4 => tv σ2 H4 fun z H5 => ∃ kvs k, y = kV k ∧ H5 D = some (.dK kvs) ∧ kvs.length < sizeLine ∧ Nx (upd H5 D (.dK (putK kvs k z))) else Nx H3) := by
  refine ⟨fun i m H => m = n - i ∧ i ≤ n ∧ Pv i H, ⟨n, by simp, Nat.zero_le _, h0⟩, ?_⟩
  rintro i m H ⟨rfl, hi, p⟩
  have q := hG i H hi p
  by_cases hlt : i < n
  · refine .inr ⟨w.goes i H hlt q, Pv (i + 1), fun H' p' => ⟨n - (i + 1), by omega, rfl, hlt, p'⟩, fun x H' y => hs i x H H' hlt p (w.yields i H x H' hlt q y)⟩
  · have e : i = n := by omega
    subst e
    exact .inl ⟨w.stops H q, hd H p⟩
end NC
-- NcUsed
set_option Elab.async false
set_option linter.all false
set_option maxRecDepth 100000
set_option maxHeartbeats 4000000
/-! The places used, as a dict's keys. -/
namespace NC
open PySem PySem.Spec PyProof.Rows L2 PySem.W
def usKV (k : Nat) : Key × V := (Sum.inl (k : Int), V.bl true)
def addN (xs : List Nat) (k : Nat) : List Nat := if k ∈ xs then xs else xs ++ [k]
theorem us_inj {a b : Nat} (h : (Sum.inl (a : Int) : Key) = Sum.inl (b : Int)) : a = b := by
  have := Sum.inl.inj h
  omega
theorem valV_us : ∀ (xs : List Nat) (k : Nat), valV (xs.map usKV) (Sum.inl (k : Int)) = if k ∈ xs then some (.bl true) else none
  | [], k => rfl
  | x :: xs, k => by
    by_cases h : x = k
    · rw [List.map_cons, valV_pos (p := usKV x) (by rw [h]; rfl), if_pos (by rw [h]; exact List.mem_cons_self)]
      rfl
    · rw [List.map_cons, valV_neg (p := usKV x) (fun z => h (us_inj z)), valV_us xs k]
      by_cases hk : k ∈ xs
      · rw [if_pos hk, if_pos (List.mem_cons_of_mem _ hk)]
      · rw [if_neg hk, if_neg fun z => by
          rcases List.mem_cons.mp z with z | z
          · exact h z.symm
          · exact hk z]
theorem putK_us (xs : List Nat) (k : Nat) : putK (xs.map usKV) (Sum.inl (k : Int)) (V.bl true) = (addN xs k).map usKV := by
  unfold addN
  by_cases hk : k ∈ xs
  · rw [if_pos hk]
    unfold putK
    rw [if_pos (List.any_eq_true.mpr ⟨usKV k, List.mem_map.mpr ⟨k, hk, rfl⟩, decide_eq_true rfl⟩), List.map_map]
    refine List.map_congr_left fun x _ => ?_
    show (if (usKV x).1 = Sum.inl (k : Int) then ((usKV x).1, V.bl true) else usKV x) = usKV x
    split
    · rfl
    · rfl
  · rw [if_neg hk, putK_new _ (by rw [valV_us, if_neg hk]), List.map_append]
    rfl
theorem mem_addN {xs : List Nat} {k j : Nat} : j ∈ addN xs k ↔ j ∈ xs ∨ j = k := by
  unfold addN
  split
  · rename_i h
    exact ⟨.inl, fun z => z.elim id fun e => e ▸ h⟩
  · rw [List.mem_append, List.mem_singleton]
theorem addN_nd {xs : List Nat} {k : Nat} (h : xs.Nodup) : (addN xs k).Nodup := by
  unfold addN
  split
  · exact h
  · rename_i hk
    exact List.nodup_append.mpr ⟨h, by simp, fun a ha b hb e => by rw [List.mem_singleton.mp hb] at e; exact hk (e ▸ ha)⟩
def addNs (xs ys : List Nat) : List Nat := ys.foldl addN xs
theorem mem_addNs : ∀ {ys xs : List Nat} {j : Nat}, j ∈ addNs xs ys ↔ j ∈ xs ∨ j ∈ ys
  | [], xs, j => by simp [addNs]
  | y :: ys, xs, j => by
    show j ∈ addNs (addN xs y) ys ↔ _
    rw [mem_addNs (ys := ys), mem_addN, List.mem_cons, or_assoc]
theorem addNs_nd : ∀ {ys xs : List Nat}, xs.Nodup → (addNs xs ys).Nodup
  | [], xs, h => h
  | y :: ys, xs, h => addNs_nd (ys := ys) (xs := addN xs y) (addN_nd h)
theorem mergeK_us : ∀ (ys xs : List Nat), mergeK (xs.map usKV) (ys.map usKV) = (addNs xs ys).map usKV
  | [], xs => rfl
  | y :: ys, xs => by
    show mergeK (putK (xs.map usKV) (Sum.inl (y : Int)) (V.bl true)) (ys.map usKV) = _
    rw [putK_us, mergeK_us ys (addN xs y)]
    rfl
theorem addNs_snoc (xs ys : List Nat) (k : Nat) : addNs xs (ys ++ [k]) = addN (addNs xs ys) k := by
  unfold addNs
  rw [List.foldl_append]
  rfl
theorem addNs_len {xs : List Nat} {n : Nat} (nd : xs.Nodup) (h : ∀ x ∈ xs, x < n) : xs.length ≤ n := by
  have z := nd_le nd (m := List.range n) fun x hx => List.mem_range.mpr (h x hx)
  rwa [List.length_range] at z
/-- ordered whole numbers that are Nats -/
theorem nats_of : ∀ {ys : List Int} {xs : List Nat}, ys.Perm (xs.map fun (k : Nat) => (k : Int)) → ∃ us : List Nat, ys = us.map (fun (k : Nat) => (k : Int)) := fun {ys xs} pm => by
  refine ⟨ys.map Int.toNat, ?_⟩
  rw [List.map_map]
  conv => lhs; rw [← List.map_id ys]
  refine List.map_congr_left fun y hy => ?_
  obtain ⟨k, _, rfl⟩ := List.mem_map.mp (pm.mem_iff.mp hy)
  rfl
/-- the new place of each -/
def nuKV (us : List Nat) : List (Key × V) := us.zipIdx.map fun p => (Sum.inl (p.1 : Int), V.int (p.2 : Int))
end NC
-- NcP5
set_option Elab.async false
set_option linter.all false
set_option maxRecDepth 100000
set_option maxHeartbeats 4000000
namespace NC
local macro_rules | `(tactic| walk_at "go") => `(tactic| (repeat (first
  | (refine ⟨_, rfl, ?_⟩)
  | (refine ⟨_, _, rfl, rfl, ?_⟩)
  | (refine ⟨_, _, rfl, ?_⟩)
  | (refine ⟨_, _, _, rfl, ?_⟩)
  | (refine Or.inl ⟨_, rfl, ?_⟩)
  | (refine iteT ?_)
  | (refine iteF ?_))))
open PySem PySem.Spec PyProof.Rows L2 PySem.W
def spUsed (K : PySem.W.Frag) : Sp := fun vs H Q _ => ∃ (a t : Addr) (us : List V) (ls : List (Line Str)) (ks : List Nat), vs = [.ref a, .ref t] ∧ H a = some (.lst us) ∧ DpAll K H us (ls.map dLine) ∧ ls.length < 64 ∧ SqT K H t (intsV ks) ∧ (∀ k ∈ ks, k < ls.length) ∧ ks.length ≤ 20 ∧ (∀ (i : Nat) l, ls[i]? = some l → l.at_.length ≤ 20 ∧ ∀ k ∈ l.at_, k < i) ∧
  ∀ q xs H', Same H H' → H q = none → H' q = some (.dK (nuKV xs)) → xs.Pairwise (· < ·) → (∀ x ∈ xs, x < ls.length) → (∀ k ∈ ks, k ∈ xs) → (∀ x ∈ xs, ∀ l, ls[x]? = some l → ∀ k ∈ l.at_, k ∈ xs) → Q (.ref q) H'
theorem nu_none : ∀ (us : List Nat) (n z : Nat), z ∉ us → valV ((us.zipIdx n).map fun p => ((Sum.inl (p.1 : Int) : Key), V.int (p.2 : Int))) (Sum.inl (z : Int)) = none
  | [], _, _, _ => rfl
  | u :: us, n, z, h => by
    rw [List.zipIdx_cons, List.map_cons, valV_neg (fun e => h (by have e2 : u = z := us_inj e; rw [e2]; exact List.mem_cons_self))]
    exact nu_none us (n + 1) z fun hz => h (List.mem_cons_of_mem _ hz)
theorem nu_snoc (us : List Nat) (z : Nat) : nuKV (us ++ [z]) = nuKV us ++ [(Sum.inl (z : Int), V.int (us.length : Int))] := by
  unfold nuKV
  rw [List.zipIdx_append, List.map_append, Nat.zero_add]
  rfl
abbrev NN_used_lines : List Str := ["lines", "places", "used", "place", "earlier", "new"]
theorem sc_used_lines : FnScope NN_used_lines ["lines", "places"] (defScope s_used_lines) := ⟨rfl, rfl, rfl, by decide +kernel, rfl, by decide +kernel, by decide +kernel⟩
section
variable {P : Program} {w : World} {K : PySem.W.Frag} {mg : Str → Option Value} {base : Heap}
-- 0 lines; 1 places; 2 used; 3 place; 4 earlier; 5 new
theorem cal_used_lines (T : Txt K mg) : Cal P w K mg base 1 "used_lines" (spUsed K) := by
  refine cal_of T.f_used_lines T.g_used_lines sc_used_lines (fun vs H Q E h => ?_) (fun _ _ _ _ _ _ us hl => match us, hl with | [_, _], _ => rfl) (fun cdv A outer s H vs Q E hr h => ?_)
  · obtain ⟨a, t, us, ls, ks, rfl, _⟩ := h
    rfl
  · obtain ⟨a, t, us, ls, ks, rfl, ha, hls, l64, ht, kb, kl, lb, k⟩ := h
    have nd := sc_used_lines.nd
    have hu := hu_of hr
    refine ⟨_, 
      (pss_cons (ps_setDc (i := 2) (own := [("place", 3)]) rfl nd rfl rfl (sw_trueD rfl rfl rfl (by decide +kernel)) (pi_tup (pv 1)) (blkOk_by (N := NN_used_lines) (sc := defScope s_used_lines) (by decide +kernel)) (fun _ _ _ _ _ => (pg_name (i := 3) nd rfl (Or.inl rfl))) (fun _ _ _ _ _ => pts_nil) (fun _ _ _ _ _ => (pv 3)) (fun _ _ _ _ _ => pe_bl))
      (pss_cons (ps_for PassesOwn.never rfl (pi_range3 (by rfl) T.n_range (pa_cons (pe_op op_sub (bB call_len T.n_len (pa_cons (pv 0) pa_nil)) pe_int) (pa_cons (pe_un un_neg pe_int) (pa_cons (pe_un un_neg pe_int) pa_nil)))) (pg_name (i := 3) nd rfl (Or.inl rfl)) 
        (pss_one (ps_if (pt_cmp (pc_din hu (pv 3) (pv 2))) 
          (pss_one (ps_expr (pe_bm PySem.F.plainAttrs_dict PySem.F.slot_dict_update PySem.F.type_dict_update mt_update (pv 2) (pa_cons (pe_dc (own := [("earlier", 4)]) rfl nd (pi_tup (pe_ix ix_tup (pe_ix ix_list (pv 0) (pv 3) (fun _ _ => rfl)) pe_int (fun _ _ => rfl))) (blkOk_by (N := NN_used_lines) (sc := defScope s_used_lines) (by decide +kernel)) (fun _ _ _ _ _ => (pg_name (i := 4) nd rfl (Or.inl rfl))) (fun _ _ _ _ _ => pts_nil) (fun _ _ _ _ _ => (pv 4)) (fun _ _ _ _ _ => pe_bl)) pa_nil)))) pss_nil)))
      (pss_one (ps_ret (pe_dc (own := [("new", 5), ("place", 3)]) rfl nd (pi_enum (by rfl) T.n_enumerate (pa_cons (bB (call_sortedDI rfl) T.n_sorted (pa_cons (pv 2) pa_nil)) pa_nil)) (blkOk_by (N := NN_used_lines) (sc := defScope s_used_lines) (by decide +kernel)) (fun _ _ _ _ _ => (show PG _ _ (gTup K 2 _) from (pg_tup rfl (pgs_cons (pg_name (i := 5) nd rfl (Or.inl rfl)) (pgs_cons (pg_name (i := 3) nd rfl (Or.inl rfl)) pgs_nil))))) (fun _ _ _ _ _ => pts_nil) (fun _ _ _ _ _ => (pv 3)) (fun _ _ _ _ _ => (pv 5))))))), ?_⟩
    walk_at "go"
    have lu := dpAll_len hls
    have z64 : (4000 : Nat) ≤ sizeLine := by decide
    refine ⟨⟨_, ht⟩, fun D nD => ?_⟩
    refine dc_it (walk_tup (xs := intsV ks)) (fun i H' => But D H H' ∧ H' D = some (.dK ((addNs [] (ks.take i)).map usKV))) ⟨upd_but, upd_same⟩ (fun i H' _ ⟨w, _⟩ => sq_t (But.new (Same.refl H) w nD) ht) ?_ ?_
    · rintro i y _ H1 hi ⟨w1, hD⟩ ⟨rfl, hy⟩
      unfold intsV at hy
      rw [List.getElem?_map] at hy
      obtain ⟨n, hn, rfl⟩ := Option.map_eq_some_iff.mp hy
      refine ⟨rfl, ?_⟩
      walk_at "go"
      have ll : (addNs [] (ks.take i)).length ≤ ls.length := addNs_len (addNs_nd List.nodup_nil) fun x hx => by
        rcases mem_addNs.mp hx with h | h
        · simp at h
        · exact kb x (List.mem_of_mem_take h)
      refine ⟨_, .inl (n : Int), rfl, hD, by rw [List.length_map]; omega, w1.trans upd_but, ?_⟩
      rw [upd_same, putK_us, List.take_add_one, hn, Option.toList_some, addNs_snoc]
    · rintro H1 ⟨w1, hD⟩
      unfold intsV at hD
      rw [List.length_map, List.take_length] at hD
      have s01 : Same H H1 := But.new (Same.refl H) w1 nD
      have ha1 := s01 _ _ ha
      walk_at "go"
      refine ⟨_, us.length, rfl, .inl ⟨_, sq_of ha1, rfl⟩, ?_⟩
      walk_at "go"
      have rg : RgC ((us.length : Int) - 1) (-1) (-1) us.length := by
        have z := RgC.neg (i := (us.length : Int) - 1) (j := -1) (by omega) (by omega) (by omega) (by omega)
        rwa [show ((us.length : Int) - 1 - -1).toNat = us.length by omega] at z
      refine ⟨_, _, _, us.length, rfl, rg, for_it walk_rangeC (fun i σ H' => ∃ (xs : List Nat) (o3 o4 o5 : Option V), σ = [some (.ref a), some (.ref t), some (.ref D), o3, o4, o5] ∧ But D H1 H' ∧ H' D = some (.dK (xs.map usKV)) ∧ xs.Nodup ∧ (∀ x ∈ xs, x < ls.length) ∧ (∀ k ∈ ks, k ∈ xs) ∧
          ∀ x ∈ xs, ls.length - i ≤ x → ∀ l, ls[x]? = some l → ∀ k ∈ l.at_, k ∈ xs)
        ⟨addNs [] ks, _, _, _, rfl, But.refl _ _, hD, addNs_nd List.nodup_nil, fun x hx => by
          rcases mem_addNs.mp hx with h | h
          · simp at h
          · exact kb x h, fun x hx => mem_addNs.mpr (.inr hx), fun x hx hle l hl => absurd (List.getElem?_eq_some_iff.mp hl).1 (by omega)⟩ (fun _ _ _ _ _ => trivial) ?_ ?_⟩
      · rintro i y σ _ H2 hi ⟨xs, o3, o4, o5, rfl, w2, hD2, ndx, bx, kx, cx⟩ ⟨rfl, hy⟩
        obtain ⟨p, hp⟩ : ∃ p : Nat, p + 1 + i = us.length := ⟨us.length - 1 - i, by omega⟩
        have ey : y = .int (p : Int) := by
          have e : ((us.length : Int) - 1 + (i : Nat) * (-1)) = (p : Int) := by omega
          have hy : y = .int ((us.length : Int) - 1 + (i : Nat) * (-1)) := hy
          rw [hy, e]
        subst ey
        have hlp : ls[p]? = some (ls[p]'(by omega)) := List.getElem?_eq_getElem (by omega)
        generalize ls[p]'(by omega) = l at hlp
        obtain ⟨l20, lbk⟩ := lb p l hlp
        walk_at "go"
        refine ⟨D, _, rfl, .inl ⟨_, .inl (p : Int), .inl hD2, rfl, rfl⟩, ?_⟩
        rw [valV_us]
        by_cases hpx : p ∈ xs
        · rw [if_pos hpx]
          refine ⟨_, rfl, iteK rfl ?_⟩
          walk_at "go"
          have s02 : Same H H2 := But.new s01 w2 nD
          obtain ⟨v, hv, hdv⟩ := dpAll_at (dpAll_same s02 hls) hlp
          obtain ⟨pl, pa, rfl, g1, g2⟩ := dp_line hdv
          refine ⟨.inr (.inr (.inl ⟨rfl, .inl ⟨_, hD2⟩⟩)), ?_⟩
          walk_at "go"
          refine ⟨a, _, _, _, rfl, rfl, sq_of (s02 _ _ ha), at_nat (by omega) (by simpa using hv), ?_⟩
          walk_at "go"
          refine ⟨pl, _, _, _, rfl, rfl, g1, rfl, ?_⟩
          refine ⟨pa, rfl, ⟨_, g2⟩, fun D2 nD2 => ?_⟩
          have nDD : D ≠ D2 := ne_of_none hD2 nD2
          refine dc_it (walk_tup (xs := l.at_.map fun (k : Nat) => V.int (k : Int))) (fun m H' => But D2 H2 H' ∧ H' D2 = some (.dK ((addNs [] (l.at_.take m)).map usKV))) ⟨upd_but, upd_same⟩ (fun m H' _ ⟨w, _⟩ => sq_t (But.new (Same.refl H2) w nD2) g2) ?_ ?_
          · rintro m y _ H3 hm ⟨w3, hD3⟩ ⟨rfl, hy⟩
            rw [List.getElem?_map] at hy
            obtain ⟨n, hn, rfl⟩ := Option.map_eq_some_iff.mp hy
            refine ⟨rfl, ?_⟩
            walk_at "go"
            have ll : (addNs [] (l.at_.take m)).length ≤ p := addNs_len (addNs_nd List.nodup_nil) fun x hx => by
              rcases mem_addNs.mp hx with h | h
              · simp at h
              · exact lbk x (List.mem_of_mem_take h)
            refine ⟨_, .inl (n : Int), rfl, hD3, by rw [List.length_map]; omega, w3.trans upd_but, ?_⟩
            rw [upd_same, putK_us, List.take_add_one, hn, Option.toList_some, addNs_snoc]
          · rintro H3 ⟨w3, hD3⟩
            rw [List.length_map, List.take_length] at hD3
            have ll : (addNs [] l.at_).length ≤ p := addNs_len (addNs_nd List.nodup_nil) fun x hx => by
              rcases mem_addNs.mp hx with h | h
              · simp at h
              · exact lbk x h
            have lx := addNs_len ndx bx
            have s23 : Same H2 H3 := But.new (Same.refl H2) w3 nD2
            walk_at "go"
            refine ⟨D, D2, _, _, rfl, rfl, nDD, s23 _ _ hD2, hD3, by rw [List.length_map, List.length_map]; omega, kPut fun H4 w4 h4 => ?_⟩
            rw [mergeK_us] at h4
            have mm : ∀ {j}, j ∈ addNs xs (addNs [] l.at_) ↔ j ∈ xs ∨ j ∈ l.at_ := fun {j} => by rw [mem_addNs, mem_addNs]; simp
            refine ⟨_, _, _, _, rfl, (w2.same s23).trans w4, h4, addNs_nd ndx, fun x hx => ?_, fun x hx => mm.mpr (.inl (kx x hx)), fun x hx hle l' hl' z hz => ?_⟩
            · rcases mm.mp hx with h | h
              · exact bx x h
              · have := lbk x h
                omega
            · refine mm.mpr ?_
              rcases Nat.lt_or_ge x (ls.length - i) with h | h
              · have e : x = p := by omega
                rw [e, hlp] at hl'
                cases hl'
                exact .inr hz
              · rcases mm.mp hx with h2 | h2
                · exact .inl (cx x h2 h l' hl' z hz)
                · have := lbk x h2
                  omega
        · rw [if_neg hpx]
          refine ⟨_, rfl, iteN rfl ?_⟩
          walk_at "go"
          refine ⟨xs, _, _, _, rfl, w2, hD2, ndx, bx, kx, fun x hx hle l' hl' => ?_⟩
          rcases Nat.lt_or_ge x (ls.length - i) with h | h
          · have : x = p := by omega
            exact absurd (this ▸ hx) hpx
          · exact cx x hx h l' hl'
      · rintro σ H2 ⟨xs, o3, o4, o5, rfl, w2, hD2, ndx, bx, kx, cx⟩
        have lx := addNs_len ndx bx
        walk_at "go"
        refine ⟨D, xs.map usKV, xs.map (fun (k : Nat) => (k : Int)), rfl, .inl hD2, by rw [List.map_map, List.map_map]; rfl, by rw [List.length_map]; omega, fun ys l pm up nl => kNew nl fun H3 s3 hl => ?_⟩
        obtain ⟨zs, rfl⟩ := nats_of pm
        have mz : ∀ z, z ∈ zs ↔ z ∈ xs := fun z => by
          have h := pm.mem_iff (a := (z : Int))
          constructor
          · intro hz
            obtain ⟨k, hk, e⟩ := List.mem_map.mp (h.mp (List.mem_map.mpr ⟨z, hz, rfl⟩))
            have : k = z := by omega
            exact this ▸ hk
          · intro hz
            obtain ⟨k, hk, e⟩ := List.mem_map.mp (h.mpr (List.mem_map.mpr ⟨z, hz, rfl⟩))
            have : k = z := by omega
            exact this ▸ hk
        have ndz : zs.Nodup := by
          have h : (zs.map fun (k : Nat) => (k : Int)).Nodup := pm.nodup_iff.mpr (List.Pairwise.map _ (fun a b (h : a ≠ b) (e : (a : Int) = (b : Int)) => h (by omega)) ndx)
          exact List.Pairwise.imp (fun {a b} h e => h (by rw [e])) (List.pairwise_map.mp h)
        have sz : zs.Pairwise (· < ·) := (List.Pairwise.and (List.pairwise_map.mp up) ndz).imp fun {a b} ⟨h1, h2⟩ => by omega
        have lz : zs.length ≤ ls.length := addNs_len ndz fun z hz => bx z ((mz z).mp hz)
        walk_at "go"
        have s02 : Same H H2 := But.new s01 w2 nD
        have s03 := s02.trans s3
        refine ⟨l, _, rfl, sq_of hl, fun D2 nD2 => ?_⟩
        have nlD : l ≠ D2 := ne_of_none hl nD2
        refine dc_it (walk_enum (xs := (zs.map fun (k : Nat) => (k : Int)).map V.int)) (fun m H' => But D2 H3 H' ∧ H' D2 = some (.dK (nuKV (zs.take m)))) ⟨upd_but, upd_same⟩ (fun m H' _ ⟨w, _⟩ => sq_of (w _ _ nlD hl)) ?_ ?_
        · rintro m y H4 H5 hm ⟨w4, hD4⟩ ⟨T', x', y', rfl, nT, e5, hx', hy'⟩
          dsimp only at hx' hy'
          cases hx'
          rw [List.getElem?_map, List.getElem?_map, Option.map_map] at hy'
          obtain ⟨z, hz, rfl⟩ := Option.map_eq_some_iff.mp hy'
          have s45 : Same H4 H5 := by rw [e5]; exact upd_new nT
          have hT : H5 T' = some (.tup [.int (m : Int), .int (z : Int)]) := by rw [e5]; exact upd_same
          refine ⟨T', _, rfl, st_of hT, rfl, ?_⟩
          refine ⟨_, _, rfl, ?_⟩
          refine ⟨_, _, rfl, ?_⟩
          refine ⟨rfl, ?_⟩
          refine ⟨rfl, ?_⟩
          walk_at "go"
          have hmz := (List.getElem?_eq_some_iff.mp hz).1
          have tkz : zs.take (m + 1) = zs.take m ++ [z] := by rw [List.take_add_one, hz, Option.toList_some]
          have lm : (zs.take m).length = m := by rw [List.length_take]; omega
          have fresh : z ∉ zs.take m := fun h => by
            rw [← List.take_append_drop (m + 1) zs, tkz] at ndz
            exact (List.nodup_append.mp (List.nodup_append.mp ndz).1).2.2 z h z List.mem_cons_self rfl
          refine ⟨_, .inl (z : Int), rfl, s45 _ _ hD4, by unfold nuKV; rw [List.length_map, List.length_zipIdx, lm]; omega, (w4.same s45).trans upd_but, ?_⟩
          rw [upd_same, tkz, nu_snoc, lm, putK_new (kvs := nuKV (zs.take m)) _ (nu_none (zs.take m) 0 z fresh)]
        · rintro H4 ⟨w4, hD4⟩
          rw [List.length_map, List.length_map, List.take_length] at hD4
          exact k D2 zs H4 (s03.trans (But.new (Same.refl H3) w4 nD2)) (none_of s03 nD2) hD4 sz (fun z hz => bx z ((mz z).mp hz)) (fun z hz => (mz z).mpr (kx z hz)) fun z hz l hl z2 h2 => (mz z2).mpr (cx z ((mz z).mp hz) (by omega) l hl z2 h2)
end
end NC
-- NcAll
set_option Elab.async false
set_option linter.all false
set_option maxRecDepth 100000
set_option maxHeartbeats 4000000
/-! A line comes: what is known grows. -/
namespace NC
open PySem PySem.Spec PyProof.Rows L2 PySem.W
def grow (m0 : Kn) (x : Str) (i : Nat) (n : Kn) : Kn := if n.key = m0.key then { n with ms := n.ms ++ [(x, i)] } else n
theorem grow_key (m0 : Kn) (x : Str) (i : Nat) (n : Kn) : (grow m0 x i n).key = n.key := by
  unfold grow
  split <;> rfl
theorem grow_at (m0 : Kn) (x : Str) (i : Nat) (n : Kn) : (grow m0 x i n).at_ = n.at_ := by
  unfold grow
  split <;> rfl
theorem Known.add {H H' : Hp} {d : Addr} {kns : List Kn} {ls : List (Line Str)} (k : Known H d kns ls) {m0 : Kn} (hm : m0 ∈ kns) {x : Str} (hx : ∀ z ∈ m0.ms, z.1 ≠ x) {l : Line Str} (hl : (l.p, l.n) = m0.key) (hq : l.q = x)
    (w : But m0.at_ H H') (h : H' m0.at_ = some (.dK ((m0.ms ++ [(x, ls.length)]).map msKV))) : Known H' d (kns.map (grow m0 x ls.length)) (ls ++ [l]) := by
  have dn : d ≠ m0.at_ := fun z => by
    have h1 := k.val m0 hm
    rw [← z, k.at_] at h1
    cases h1
  have g0 : grow m0 x ls.length m0 = { m0 with ms := m0.ms ++ [(x, ls.length)] } := if_pos rfl
  have key : (kns.map (grow m0 x ls.length)).map (·.key) = kns.map (·.key) := by
    rw [List.map_map]
    exact List.map_congr_left fun n _ => grow_key m0 x ls.length n
  have ats : (kns.map (grow m0 x ls.length)).map (·.at_) = kns.map (·.at_) := by
    rw [List.map_map]
    exact List.map_congr_left fun n _ => grow_at m0 x ls.length n
  have cs : ∀ n ∈ kns, n = m0 ∨ (n.key ≠ m0.key ∧ n.at_ ≠ m0.at_ ∧ grow m0 x ls.length n = n) := fun n hn => by
    by_cases e : n.key = m0.key
    · exact .inl (key_inj k.nd hn hm e)
    · exact .inr ⟨e, fun z => e (by rw [key_inj k.nda hn hm z]), if_neg e⟩
  refine ⟨?_, ?_, by rw [key]; exact k.nd, ?_, by rw [ats]; exact k.nda, ?_, ?_⟩
  · rw [w _ _ dn k.at_, List.map_map]
    congr 2
    refine List.map_congr_left fun n _ => ?_
    show (pk n.key, V.ref n.at_) = (pk (grow m0 x ls.length n).key, V.ref (grow m0 x ls.length n).at_)
    rw [grow_key, grow_at]
  · intro n' hn'
    obtain ⟨n, hn, rfl⟩ := List.mem_map.mp hn'
    rcases cs n hn with rfl | ⟨h1, h2, h3⟩
    · rw [g0]
      exact h
    · rw [h3]
      exact w _ _ h2 (k.val n hn)
  · intro n' hn'
    obtain ⟨n, hn, rfl⟩ := List.mem_map.mp hn'
    rcases cs n hn with rfl | ⟨h1, h2, h3⟩
    · rw [g0]
      show ((n.ms ++ [(x, ls.length)]).map (·.1)).Nodup
      rw [List.map_append]
      refine List.nodup_append.mpr ⟨k.ndm n hn, by simp, fun a ha b hb e => ?_⟩
      obtain ⟨z, hz, rfl⟩ := List.mem_map.mp ha
      rw [List.map_cons, List.map_nil, List.mem_singleton] at hb
      exact hx z hz (e.trans hb)
    · rw [h3]
      exact k.ndm n hn
  · intro n' hn' z hz
    obtain ⟨n, hn, rfl⟩ := List.mem_map.mp hn'
    have old : ∀ n ∈ kns, ∀ z ∈ n.ms, ∃ l', (ls ++ [l])[z.2]? = some l' ∧ l'.p = n.key.1 ∧ l'.n = n.key.2 ∧ l'.q = z.1 := fun n hn z hz => by
      obtain ⟨l', h1, h2⟩ := k.has n hn z hz
      exact ⟨l', by rw [List.getElem?_append_left (List.getElem?_eq_some_iff.mp h1).1]; exact h1, h2⟩
    rcases cs n hn with rfl | ⟨h1, h2, h3⟩
    · rw [g0] at hz ⊢
      rcases List.mem_append.mp hz with hz | hz
      · exact old n hn z hz
      · rw [List.mem_singleton.mp hz]
        exact ⟨l, by rw [List.getElem?_append_right (Nat.le_refl _), Nat.sub_self]; rfl, by show l.p = n.key.1; rw [← hl], by show l.n = n.key.2; rw [← hl], hq⟩
    · rw [h3] at hz ⊢
      exact old n hn z hz
  · intro i l' hi
    rcases Nat.lt_or_ge i ls.length with h1 | h1
    · rw [List.getElem?_append_left h1] at hi
      obtain ⟨n, hn, hk, hin⟩ := k.all i l' hi
      refine ⟨grow m0 x ls.length n, List.mem_map.mpr ⟨n, hn, rfl⟩, by rw [grow_key]; exact hk, ?_⟩
      rcases cs n hn with rfl | ⟨_, _, h3⟩
      · rw [g0]
        exact List.mem_append_left _ hin
      · rw [h3]
        exact hin
    · rw [List.getElem?_append_right h1] at hi
      have e : i - ls.length = 0 := by
        have := (List.getElem?_eq_some_iff.mp hi).1
        rw [List.length_singleton] at this
        omega
      rw [e] at hi
      have e2 : l = l' := Option.some.inj hi
      subst e2
      refine ⟨grow m0 x ls.length m0, List.mem_map.mpr ⟨m0, hm, rfl⟩, by rw [grow_key]; exact hl.symm, ?_⟩
      rw [g0, hq, show i = ls.length by omega]
      exact List.mem_append_right _ List.mem_cons_self
end NC
namespace NC
open PySem PySem.Spec PyProof.Rows L2 PySem.W
/-- lines are unlike one another -/
theorem Known.uniq {H : Hp} {d : Addr} {kns : List Kn} {ls : List (Line Str)} (k : Known H d kns ls) {i j : Nat} {a b : Line Str} (ha : ls[i]? = some a) (hb : ls[j]? = some b) (e : (a.p, a.n) = (b.p, b.n)) (eq : a.q = b.q) : i = j := by
  obtain ⟨n, hn, hk, hi⟩ := k.all i a ha
  obtain ⟨m, hm, hk2, hj⟩ := k.all j b hb
  have : n = m := key_inj k.nd hn hm (hk.trans (e.trans hk2.symm))
  subst this
  have z := key_inj (k.ndm n hn) hi hj eq
  exact (Prod.mk.inj z).2
theorem Known.bound {H : Hp} {d : Addr} {kns : List Kn} {ls : List (Line Str)} (k : Known H d kns ls) {ks : List (Str × Str)} {U : List Str} (hk : ∀ l ∈ ls, (l.p, l.n) ∈ ks) (hU : ∀ l ∈ ls, l.q ∈ U) : ls.length ≤ ks.length * U.length := by
  have nd : (ls.map fun l => ((l.p, l.n), l.q)).Nodup := by
    refine List.pairwise_map.mpr (List.pairwise_iff_getElem.mpr fun i j hi hj hlt e => ?_)
    obtain ⟨e1, e2⟩ := Prod.mk.inj e
    have := k.uniq (List.getElem?_eq_getElem hi) (List.getElem?_eq_getElem hj) e1 e2
    omega
  have z := nd_le nd (m := ks.flatMap fun p => U.map fun u => (p, u)) fun y hy => by
    obtain ⟨l, hl, rfl⟩ := List.mem_map.mp hy
    exact List.mem_flatMap.mpr ⟨_, hk l hl, List.mem_map.mpr ⟨_, hU l hl, rfl⟩⟩
  rw [List.length_map] at z
  refine Nat.le_trans z (Nat.le_of_eq ?_)
  clear z nd hk
  induction ks with
  | nil => simp
  | cons p ks ih => rw [List.flatMap_cons, List.length_append, ih, List.length_map, List.length_cons, Nat.succ_mul, Nat.add_comm]
end NC
-- NcP6
set_option Elab.async false
set_option linter.all false
set_option maxRecDepth 100000
set_option maxHeartbeats 4000000
namespace NC
local macro_rules | `(tactic| walk_at "go") => `(tactic| (repeat (first
  | (refine ⟨_, rfl, ?_⟩)
  | (refine ⟨_, _, rfl, rfl, ?_⟩)
  | (refine ⟨_, _, rfl, ?_⟩)
  | (refine ⟨_, _, _, rfl, ?_⟩)
  | (refine Or.inl ⟨_, rfl, ?_⟩)
  | (refine iteT ?_)
  | (refine iteF ?_))))
open PySem PySem.Spec PyProof.Rows L2 PySem.W
def spAll (K : PySem.W.Frag) : Sp := fun vs H Q _ => ∃ (d : Addr) (gs : List Grp) (ms : List (Nam Str)) (U : List Str), vs = [.ref d] ∧ NamedT K H d gs ms ∧ U.length ≤ 40 ∧ (∀ n ∈ ms, ∀ p r, n.chain = p :: r → p ∈ U) ∧
  ∀ t q l kns ls us H', Same H H' → SqT K H' t [.ref l, .ref q] → H' l = some (.lst us) → DpAll K H' us (ls.map dLine) → Known H' q kns ls → AllRight ms ls → Closed ms (Says ls) → (∀ l ∈ ls, l.q ∈ U) → ls.length ≤ gs.length * U.length → Q (.ref t) H'
/-- what the lines under way keep -/
structure AInv (K : PySem.W.Frag) (H : Hp) (gs : List Grp) (ms : List (Nam Str)) (U : List Str) (l q : Addr) (kns : List Kn) (ls : List (Line Str)) (us : List V) (H' : Hp) : Prop where
  same : Same H H'
  lst : H' l = some (.lst us)
  dat : DpAll K H' us (ls.map dLine)
  kn : Known H' q kns ls
  new : ∀ n ∈ kns, H n.at_ = none
  right : AllRight ms ls
  sub : ∀ z ∈ ls, z.q ∈ U
  key : ∀ z ∈ ls, (z.p, z.n) ∈ gs.map (·.key)
  kk : ∀ n ∈ kns, n.key ∈ gs.map (·.key)
theorem setd_both {kvs : List (List Key × V)} {kk : List Key} {z : V} {H3 H3' : Hp} {Q : VK} (PRE : V → Hp → Prop) (h : ∀ v H, PRE v H → Q v H) (h1 : ∀ v, valV kvs kk = some v → PRE v H3) (h2 : valV kvs kk = none → PRE z H3') : (∀ v, valV kvs kk = some v → Q v H3) ∧ (valV kvs kk = none → Q z H3') := ⟨fun v hv => h _ _ (h1 v hv), fun hv => h _ _ (h2 hv)⟩
theorem noList_lines : ∀ ls : List (Line Str), noListAll (ls.map dLine) = true
  | [] => rfl
  | l :: ls => by
    have p : ∀ ks : List Nat, noListAll (ks.map fun (k : Nat) => PyData.int (k : Int)) = true := fun ks => by
      induction ks with
      | nil => rfl
      | cons k ks ih => exact ih
    rw [List.map_cons]
    show (noList (dLine l) && noListAll (ls.map dLine)) = true
    rw [noList_lines ls, Bool.and_true]
    show (true && (true && (true && (true && (noListAll (l.at_.map fun (k : Nat) => PyData.int (k : Int)) && true))))) = true
    rw [p]
    rfl
theorem bt_tup {p a : Addr} {o : HO} {xs : List V} {H H' : Hp} (w : But p H H') (hp : H p = some o) (ho : Imm o = false) (h : H a = some (.tup xs)) : H' a = some (.tup xs) := w _ _ (fun z => by rw [z, hp] at h; cases h; cases ho) h
theorem AInv.on {K : PySem.W.Frag} {H H1 H2 : Hp} {gs : List Grp} {ms : List (Nam Str)} {U : List Str} {l q : Addr} {kns : List Kn} {ls : List (Line Str)} {us : List V} (h : AInv K H gs ms U l q kns ls us H1) (s : Same H1 H2) : AInv K H gs ms U l q kns ls us H2 :=
  { h with same := h.same.trans s, lst := s _ _ h.lst, dat := dpAll_same s h.dat, kn := h.kn.same s }
theorem AInv.klen {K : PySem.W.Frag} {H H1 : Hp} {gs : List Grp} {ms : List (Nam Str)} {U : List Str} {l q : Addr} {kns : List Kn} {ls : List (Line Str)} {us : List V} (h : AInv K H gs ms U l q kns ls us H1) : kns.length ≤ gs.length := by
  have z := nd_le h.kn.nd (m := gs.map (·.key)) fun x hx => by
    obtain ⟨n, hn, rfl⟩ := List.mem_map.mp hx
    exact h.kk n hn
  rwa [List.length_map, List.length_map] at z
theorem AInv.mlen {K : PySem.W.Frag} {H H1 : Hp} {gs : List Grp} {ms : List (Nam Str)} {U : List Str} {l q : Addr} {kns : List Kn} {ls : List (Line Str)} {us : List V} (h : AInv K H gs ms U l q kns ls us H1) {n : Kn} (hn : n ∈ kns) : n.ms.length ≤ U.length := by
  have z := nd_le (h.kn.ndm n hn) (m := U) fun x hx => by
    obtain ⟨m, hm, rfl⟩ := List.mem_map.mp hx
    obtain ⟨l, h1, _, _, h2⟩ := h.kn.has n hn m hm
    rw [← h2]
    exact h.sub l (List.mem_of_getElem? h1)
  rwa [List.length_map] at z
/-- a pair comes -/
theorem AInv.ext {K : PySem.W.Frag} {H H1 : Hp} {gs : List Grp} {ms : List (Nam Str)} {U : List Str} {l q e : Addr} {kns : List Kn} {ls : List (Line Str)} {us : List V} {key : Str × Str} (h : AInv K H gs ms U l q kns ls us H1) (nq : H q = none) (he : H1 e = some (.dK [])) (ne0 : H e = none) (hk : key ∈ gs.map (·.key))
    (no : ∀ n ∈ kns, n.key ≠ key) (na : ∀ n ∈ kns, n.at_ ≠ e) (hv : valV (kns.map knKV) (pk key) = none) : AInv K H gs ms U l q (kns ++ [⟨key, e, []⟩]) ls us (upd H1 q (.dT (putK (kns.map knKV) (pk key) (.ref e)))) := by
  have lq : l ≠ q := fun z => by have := h.lst; rw [z, h.kn.at_] at this; cases this
  have eq : e ≠ q := fun z => by rw [z, h.kn.at_] at he; cases he
  have nq2 : ∀ n ∈ kns, n.at_ ≠ q := fun n hn z => by have := h.kn.val n hn; rw [z, h.kn.at_] at this; cases this
  have cs : ∀ {p : Kn → Prop}, (∀ n ∈ kns, p n) → p ⟨key, e, []⟩ → ∀ n ∈ kns ++ [⟨key, e, []⟩], p n := fun {p} h1 h2 n hn => by
    rcases List.mem_append.mp hn with hn | hn
    · exact h1 n hn
    · rw [List.mem_singleton.mp hn]
      exact h2
  refine ⟨But.new h.same upd_but nq, by rw [upd_ne lq]; exact h.lst, dp_butFAll upd_but h.kn.at_ rfl _ _ (noList_lines ls) h.dat, ⟨?_, ?_, ?_, ?_, ?_, ?_, ?_⟩, cs h.new ne0, h.right, h.sub, h.key, cs h.kk hk⟩
  · rw [putK_new _ hv, upd_same, List.map_append]
    rfl
  · refine cs (fun n hn => ?_) ?_
    · rw [upd_ne (nq2 n hn)]
      exact h.kn.val n hn
    · show upd H1 q _ e = _
      rw [upd_ne eq]
      exact he
  · rw [List.map_append]
    refine List.nodup_append.mpr ⟨h.kn.nd, by simp, fun a ha b hb e => ?_⟩
    obtain ⟨n, hn, rfl⟩ := List.mem_map.mp ha
    rw [List.map_cons, List.map_nil, List.mem_singleton] at hb
    exact no n hn (e.trans hb)
  · exact cs h.kn.ndm List.nodup_nil
  · rw [List.map_append]
    refine List.nodup_append.mpr ⟨h.kn.nda, by simp, fun a ha b hb e => ?_⟩
    obtain ⟨n, hn, rfl⟩ := List.mem_map.mp ha
    rw [List.map_cons, List.map_nil, List.mem_singleton] at hb
    exact na n hn (e.trans hb)
  · exact cs h.kn.has fun m hm => by cases hm
  · intro i l' hl
    obtain ⟨n, hn, z⟩ := h.kn.all i l' hl
    exact ⟨n, List.mem_append_left _ hn, z⟩
/-- a line comes -/
theorem AInv.put {K : PySem.W.Frag} {H H1 H2 H3 H4 : Hp} {gs : List Grp} {ms : List (Nam Str)} {U : List Str} {l q p : Addr} {kns : List Kn} {ls : List (Line Str)} {us : List V} (h : AInv K H gs ms U l q kns ls us H1) {m0 : Kn} (hm : m0 ∈ kns) {z : Line Str} (hx : ∀ y ∈ m0.ms, y.1 ≠ z.q) (hl : (z.p, z.n) = m0.key) (nl : H l = none)
    (w : But m0.at_ H1 H2) (h2 : H2 m0.at_ = some (.dK ((m0.ms ++ [(z.q, ls.length)]).map msKV))) (s : Same H2 H3) (hp : Dp K H3 (.ref p) (dLine z)) (w4 : But l H3 H4) (h4 : H4 l = some (.lst (us ++ [.ref p]))) (hr : AllRight ms (ls ++ [z])) (hU : z.q ∈ U) :
    AInv K H gs ms U l q (kns.map (grow m0 z.q ls.length)) (ls ++ [z]) (us ++ [.ref p]) H4 := by
  have k2 := h.kn.add hm hx hl rfl w h2
  have k3 := k2.same s
  have nm : l ≠ m0.at_ := fun e => by have := h.lst; rw [e, h.kn.val m0 hm] at this; cases this
  have l3 : H3 l = some (.lst us) := s _ _ (w _ _ nm h.lst)
  have d3 : DpAll K H3 (us ++ [.ref p]) ((ls ++ [z]).map dLine) := by
    rw [List.map_append]
    exact dpAll_app (dpAll_same s (dp_butFAll w (h.kn.val m0 hm) rfl _ _ (noList_lines ls) h.dat)) (.cons hp .nil)
  have ql : q ≠ l := fun e => by have := k3.at_; rw [e, l3] at this; cases this
  have gk : ∀ n' ∈ kns.map (grow m0 z.q ls.length), ∃ n ∈ kns, n'.key = n.key ∧ n'.at_ = n.at_ := fun n' hn' => by
    obtain ⟨n, hn, rfl⟩ := List.mem_map.mp hn'
    exact ⟨n, hn, grow_key _ _ _ _, grow_at _ _ _ _⟩
  refine ⟨But.new ((But.new h.same w (h.new m0 hm)).trans s) w4 nl, h4, dp_butFAll w4 l3 rfl _ _ (noList_lines _) d3, ⟨w4 _ _ ql k3.at_, fun n hn => w4 _ _ (fun e => ?_) (k3.val n hn), k3.nd, k3.ndm, k3.nda, k3.has, k3.all⟩, fun n' hn' => ?_, hr, fun y hy => ?_, fun y hy => ?_, fun n' hn' => ?_⟩
  · have := k3.val n hn
    rw [e, l3] at this
    cases this
  · obtain ⟨n, hn, _, e⟩ := gk n' hn'
    rw [e]
    exact h.new n hn
  · rcases List.mem_append.mp hy with hy | hy
    · exact h.sub y hy
    · rw [List.mem_singleton.mp hy]
      exact hU
  · rcases List.mem_append.mp hy with hy | hy
    · exact h.key y hy
    · rw [List.mem_singleton.mp hy, hl]
      exact h.kk m0 hm
  · obtain ⟨n, hn, e, _⟩ := gk n' hn'
    rw [e]
    exact h.kk n hn
theorem valV_grp {gs : List Grp} (nd : (gs.map (·.key)).Nodup) {g : Grp} (hg : g ∈ gs) : valV (gs.map grpKV) (pk g.key) = some (.ref g.at_) := by
  induction gs with
  | nil => cases hg
  | cons y gs ih =>
    rw [List.map_cons, List.nodup_cons] at nd
    by_cases h : y.key = g.key
    · rw [List.map_cons, valV_pos (p := grpKV y) (by show pk y.key = pk g.key; rw [h])]
      rcases List.mem_cons.mp hg with rfl | hg
      · rfl
      · exact absurd (List.mem_map.mpr ⟨g, hg, h.symm⟩) nd.1
    · rw [List.map_cons, valV_neg (p := grpKV y) (fun z => h (pk_inj z))]
      rcases List.mem_cons.mp hg with rfl | hg
      · exact absurd rfl h
      · exact ih nd.2 hg
theorem ms_none {ms : List (Str × Nat)} {x : Str} : valV (ms.map msKV) (Sum.inr x) = none ↔ ∀ m ∈ ms, m.1 ≠ x := by
  induction ms with
  | nil => simp [valV]
  | cons e es ih =>
    by_cases h : e.1 = x
    · rw [List.map_cons, valV_pos (p := msKV e) (by show Sum.inr e.1 = Sum.inr x; rw [h])]
      simp [h]
    · rw [List.map_cons, valV_neg (p := msKV e) (fun z => h (Sum.inr.inj z)), ih]
      simp [h]
theorem pre_at {A : Type} {l m : List A} (h : l <+: m) (k : Nat) (x : A) (e : l[k]? = some x) : m[k]? = some x := by
  obtain ⟨t, rfl⟩ := h
  rw [List.getElem?_append_left (List.getElem?_eq_some_iff.mp e).1]
  exact e
theorem pre_eq {A : Type} {l m n : List A} (h : l <+: m) (k : m <+: n) (e : n = l) : m = l := by
  subst e
  exact k.eq_of_length (Nat.le_antisymm k.length_le h.length_le)
theorem pre_snoc {A : Type} {l m : List A} {x : A} (h : l <+: m) : m ++ [x] ≠ l := fun e => by
  have := h.length_le
  rw [← e, List.length_append, List.length_singleton] at this
  omega
abbrev NN_all_lines : List Str := ["named", "lines", "known", "many", "pair", "own", "index", "chain", "other", "places"]
theorem sc_all_lines : FnScope NN_all_lines ["named"] (defScope s_all_lines) := ⟨rfl, rfl, rfl, by decide +kernel, rfl, by decide +kernel, by decide +kernel⟩
section
variable {P : Program} {w : World} {K : PySem.W.Frag} {mg : Str → Option Value} {base : Heap}
-- 0 named; 1 lines; 2 known; 3 many; 4 pair; 5 own; 6 index; 7 chain; 8 other; 9 places
theorem cal_all_lines (T : Txt K mg) : Cal P w K mg base 2 "all_lines" (spAll K) := by
  have c_routes : Cal P w K mg base 1 "routes" (spRoutes K) := cal_routes T
  refine cal_of T.f_all_lines T.g_all_lines sc_all_lines (fun vs H Q E h => ?_) (fun _ _ _ _ _ _ us hl => match us, hl with | [_], _ => rfl) (fun cdv A outer s H vs Q E hr h => ?_)
  · obtain ⟨d, gs, ms, U, rfl, _⟩ := h
    rfl
  · obtain ⟨d, gs, ms, U, rfl, N, hU, hd, k⟩ := h
    have nd := sc_all_lines.nd
    have hu := hu_of hr
    refine ⟨_, 
      (pss_cons (ps_par3 (i := 1) (j := 2) (l := 3) rfl nd rfl rfl rfl (by decide) (by decide) (by decide) rfl rfl rfl (pa_cons (pe_lst pa_nil) (pa_cons pe_dnewT (pa_cons (pe_un un_neg pe_int) pa_nil))) (by rfl))
      (pss_cons (ps_while PassesOwn.never (pt_cmpR op_gt (bB call_len T.n_len (pa_cons (pv 1) pa_nil)) (pv 3) (nomark _)) 
        (pss_cons (ps_set (i := 3) nd rfl (Or.inl rfl) (bB call_len T.n_len (pa_cons (pv 1) pa_nil)))
        (pss_one (ps_for PassesOwn.never rfl (pi_list (bB (cr_sortedP2 rfl hr.units) T.n_sorted (pa_cons (pv 0) pa_nil))) (pg_name (i := 4) nd rfl (Or.inl rfl)) 
          (pss_cons (ps_set (i := 5) nd rfl (Or.inl rfl) (pe_dsetdT hu (pv 2) (pv 4) pe_dnewK ⟨by rfl, by rfl, by rfl, by rfl⟩))
          (pss_one (ps_for PassesOwn.never rfl (pi_tup (pe_dget hu (pv 0) (pv 4) (fun _ _ => rfl))) (pg_tup rfl (pgs_cons (pg_name (i := 6) nd rfl (Or.inl rfl)) (pgs_cons (pg_name (i := 7) nd rfl (Or.inl rfl)) pgs_nil))) 
            (pss_one (ps_for PassesOwn.never rfl (pi_itemsF (pe_c c_routes hr (by rfl) (pa_cons (pv 2) (pa_cons (pv 7) pa_nil)))) (pg_tup rfl (pgs_cons (pg_name (i := 8) nd rfl (Or.inl rfl)) (pgs_cons (pg_name (i := 9) nd rfl (Or.inl rfl)) pgs_nil))) 
              (pss_one (ps_if (pt_cmp (pc_dnotin hu (pv 8) (pv 5))) 
                (pss_cons (ps_dput hu (pv 5) (pv 8) (bB call_len T.n_len (pa_cons (pv 1) pa_nil)) rfl)
                (pss_one (ps_expr (pe_bm PySem.F.plainAttrs_list PySem.F.slot_list_append PySem.F.type_list_append mt_append (pv 1) (pa_cons (pe_tup (StX.pa_star (pv 4) (pa_cons (pv 8) (pa_cons (pv 6) (pa_cons (pv 9) pa_nil))))) pa_nil))))) pss_nil)))))))))))
      (pss_one (ps_ret (pe_tup (pa_cons (pv 1) (pa_cons (pv 2) pa_nil))))))), ?_⟩
    refine ⟨Nat.zero_le _, fun l nl => kNew nl fun H1 s1 hl => ?_⟩
    walk_at "go"
    refine (fun q nq => kNew nq fun H2 s2 hq => ?_)
    walk_at "go"
    have s02 := s1.trans s2
    have nq0 : H q = none := none_of s1 nq
    have hl2 := s2 _ _ hl
    refine ⟨fun m σ H' => ∃ (kns : List Kn) (ls : List (Line Str)) (us : List V) (many : Int) (o4 o5 o6 o7 o8 o9 : Option V), σ = [some (.ref d), some (.ref l), some (.ref q), some (.int many), o4, o5, o6, o7, o8, o9] ∧ AInv K H gs ms U l q kns ls us H' ∧ many ≤ ls.length ∧ -1 ≤ many ∧ (m : Int) + many = gs.length * U.length ∧ (many = ls.length → Closed ms (Says ls)),
      ⟨gs.length * U.length + 1, [], [], [], -1, _, _, _, _, _, _, rfl, ⟨s02, hl2, .nil, ⟨hq, by simp, List.nodup_nil, by simp, List.nodup_nil, by simp, by simp⟩, by simp, fun i hi => absurd hi (Nat.not_lt_zero _), by simp, by simp, by simp⟩, by simp, by simp, by push_cast; omega, fun z => by simp at z⟩, ?_⟩
    rintro m σ H3 ⟨kns, ls, us, many, o4, o5, o6, o7, o8, o9, rfl, inv, h1, h2, h3, cl⟩
    have lus := dpAll_len inv.dat
    have bd := inv.kn.bound inv.key inv.sub
    rw [List.length_map] at bd
    walk_at "go"
    refine ⟨_, us.length, rfl, .inl ⟨_, sq_of inv.lst, rfl⟩, ?_⟩
    walk_at "go"
    refine iteD (fun hin => ?_) (fun hin => ?_)
    · refine ⟨fun σ' H' => ∃ m', m' < m ∧ ∃ (kns : List Kn) (ls : List (Line Str)) (us : List V) (many : Int) (o4 o5 o6 o7 o8 o9 : Option V), σ' = [some (.ref d), some (.ref l), some (.ref q), some (.int many), o4, o5, o6, o7, o8, o9] ∧ AInv K H gs ms U l q kns ls us H' ∧ many ≤ ls.length ∧ -1 ≤ many ∧ (m' : Int) + many = gs.length * U.length ∧ (many = ls.length → Closed ms (Says ls)), fun σ' H' z => z, ?_⟩
      walk_at "go"
      refine ⟨_, us.length, rfl, .inl ⟨_, sq_of inv.lst, rfl⟩, ?_⟩
      walk_at "go"
      have N3 := N.same inv.same
      refine ⟨d, gs.map grpKV, gs.map (·.key), rfl, .inl N3.at_, by rw [List.map_map, List.map_map]; rfl, fun rows sl pm up hrows nsl => kNew nsl fun H4 s4 hsl => ?_⟩
      walk_at "go"
      have nsll : sl ≠ l := fun z => by rw [z, inv.lst] at nsl; cases nsl
      refine ⟨⟨_, sq_of hsl⟩, for_it (walk_list (xs := rows.map fun r => .ref r.1)) (fun i σ H' => ∃ (kns' : List Kn) (ls' : List (Line Str)) (us' : List V) (o4 o5 o6 o7 o8 o9 : Option V), σ = [some (.ref d), some (.ref l), some (.ref q), some (.int (ls.length : Int)), o4, o5, o6, o7, o8, o9] ∧ AInv K H gs ms U l q kns' ls' us' H' ∧ H' sl = some (.lst (rows.map fun r => .ref r.1)) ∧ (∀ r ∈ rows, H' r.1 = some (.tup [.str r.2.1, .str r.2.2])) ∧ ls <+: ls' ∧
          (ls' = ls → ∀ g ∈ gs, g.key ∈ (rows.take i).map (·.2) → ∀ n ∈ g.ns, ∀ x, ReachC (Says ls) n.chain x → Says ls n.who n.word x))
        ⟨kns, ls, us, _, _, _, _, _, _, by rw [lus]; rfl, inv.on s4, hsl, fun r hr => s4 _ _ (hrows r hr), List.prefix_refl _, fun _ g _ hg => by simp at hg⟩ (fun i σ H' _ ⟨_, _, _, _, _, _, _, _, _, _, _, h, _⟩ => sq_of h) ?_ ?_⟩
      · rintro i y σ _ H5 hi ⟨kns', ls', us', o4, o5, o6, o7, o8, o9, rfl, inv5, hsl5, hrow5, pf5, cl5⟩ ⟨rfl, hy⟩
        rw [List.getElem?_map] at hy
        obtain ⟨⟨ad, pr⟩, hrow, rfl⟩ := Option.map_eq_some_iff.mp hy
        have hrm := List.mem_of_getElem? hrow
        obtain ⟨g, hgm, rfl⟩ : ∃ g ∈ gs, g.key = pr := List.mem_map.mp (pm.mem_iff.mp (List.mem_map.mpr ⟨_, hrm, rfl⟩))
        have tki : (rows.take (i + 1)).map (·.2) = (rows.take i).map (·.2) ++ [g.key] := by rw [List.take_add_one, hrow, Option.toList_some, List.map_append]; rfl
        have hpr5 : H5 ad = some (.tup ((pk g.key).map kV)) := hrow5 _ hrm
        obtain ⟨vs, hvs, hall⟩ := dp_rows (N.g.val g hgm)
        have lvs := dpAll_len hall
        walk_at "go"
        refine ⟨.inr ⟨_, .inl inv5.kn.at_⟩, ?_⟩
        walk_at "go"
        refine (fun e ne => kNew ne fun H6 s6 he => ?_)
        have inv6 := inv5.on s6
        have hpr6 := s6 _ _ hpr5
        have l24 := inv6.klen
        have g24 := N.g.lg
        refine ⟨_, pk g.key, ad, inv6.kn.at_, rfl, hpr6, sz_lt (by rw [List.length_map]; omega), setd_both (fun v Hx => ∃ kns2 n0, v = .ref n0.at_ ∧ n0 ∈ kns2 ∧ n0.key = g.key ∧ AInv K H gs ms U l q kns2 ls' us' Hx ∧ Hx sl = some (.lst (rows.map fun r => .ref r.1)) ∧ (∀ r ∈ rows, Hx r.1 = some (.tup [.str r.2.1, .str r.2.2]))) ?_ (fun v hv => ?_) fun hv => ?_⟩
        · rintro v H7 ⟨kns2, n0, rfl, hn0, hk0, inv7, hsl7, hrow7⟩
          have hpr7 : H7 ad = some (.tup ((pk g.key).map kV)) := hrow7 _ hrm
          walk_at "go"
          refine ⟨d, _, rfl, .inr ⟨_, _, ad, .inl (N.same inv7.same).at_, rfl, hpr7, (valV_grp N.g.nd hgm).symm⟩, ?_⟩
          refine ⟨g.at_, rfl, ⟨_, sq_t inv7.same hvs⟩, for_it (walk_tup (xs := vs)) (fun j σ H' => ∃ (kns3 : List Kn) (ls3 : List (Line Str)) (us3 : List V) (n3 : Kn) (o6 o7 o8 o9 : Option V), σ = [some (.ref d), some (.ref l), some (.ref q), some (.int (ls.length : Int)), some (.ref ad), some (.ref n0.at_), o6, o7, o8, o9] ∧ AInv K H gs ms U l q kns3 ls3 us3 H' ∧ (n3 ∈ kns3 ∧ n3.key = g.key ∧ n3.at_ = n0.at_) ∧ H' sl = some (.lst (rows.map fun r => .ref r.1)) ∧ (∀ r ∈ rows, H' r.1 = some (.tup [.str r.2.1, .str r.2.2])) ∧ ls' <+: ls3 ∧
              (ls3 = ls → ∀ n ∈ g.ns.take j, ∀ x, ReachC (Says ls) n.chain x → Says ls n.who n.word x))
            ⟨kns2, ls', us', n0, _, _, _, _, rfl, inv7, ⟨hn0, hk0, rfl⟩, hsl7, hrow7, List.prefix_refl _, fun _ n hn => by simp at hn⟩ (fun j σ H' _ ⟨_, _, _, _, _, _, _, _, _, h, _⟩ => sq_t h.same hvs) ?_ ?_⟩
          · rintro j y σ _ H8 hj ⟨kns3, ls3, us3, n3, o6, o7, o8, o9, rfl, inv8, ⟨hn3, hk3, ha3⟩, hsl8, hrow8, pf8, cl8⟩ ⟨rfl, hy⟩
            have hnj : g.ns[j]? = some (g.ns[j]'(by omega)) := List.getElem?_eq_getElem (by omega)
            generalize g.ns[j]'(by omega) = n at hnj
            obtain ⟨v, hv, hdv⟩ := dpAll_at (dpAll_same inv8.same hall) hnj
            rw [hy] at hv
            cases hv
            obtain ⟨p, pc, rfl, q1, q2⟩ := dp_namrow hdv
            have hngm := List.mem_of_getElem? hnj
            have hnm : n ∈ ms := (N.g.all n).mpr ⟨g, hgm, hngm⟩
            have hown := N.g.own g hgm n hngm
            obtain ⟨c1, c2⟩ := N.g.chn n hnm
            obtain ⟨p0, r, hc⟩ : ∃ p0 r, n.chain = p0 :: r := List.exists_cons_of_ne_nil c1
            rw [hc] at q2 c2
            rw [List.length_cons] at c2
            have tkj : g.ns.take (j + 1) = g.ns.take j ++ [n] := by rw [List.take_add_one, hnj, Option.toList_some]
            refine ⟨p, _, rfl, q1, rfl, ?_⟩
            refine ⟨_, _, rfl, ?_⟩
            refine ⟨_, _, rfl, ?_⟩
            refine ⟨rfl, ?_⟩
            walk_at "go"
            refine ⟨q, pc, kns3, ls3, U, p0, r, rfl, inv8.kn, inv8.sub, hU, q2, by omega, fun q9 es H9 s9 nq9 hq9 E9 all9 => ?_⟩
            refine .inr ⟨q9, _, rfl, hq9, trivial, fun od => ?_⟩
            obtain ⟨HA, eHA⟩ : ∃ HA, upd H9 q9 (.frz od (.dK (es.map entKV))) = HA := ⟨_, rfl⟩
            have hqA : HA q9 = some (.frz od (.dK (es.map entKV))) := by rw [← eHA]; exact upd_same
            have wA : But q9 H9 HA := by rw [← eHA]; exact upd_but
            have s8A : Same H8 HA := But.new s9 wA nq9
            have EA := E9.on (fun a xs h => bt_t wA hq9 rfl h)
            rw [eHA]
            refine ⟨q9, od, _, rfl, hqA, for_it walk_items (fun m σ H' => ∃ (kns4 : List Kn) (ls4 : List (Line Str)) (us4 : List V) (n4 : Kn) (o8 o9 : Option V), σ = [some (.ref d), some (.ref l), some (.ref q), some (.int (ls.length : Int)), some (.ref ad), some (.ref n0.at_), some (.int (n.ix : Int)), some (.ref pc), o8, o9] ∧ AInv K H gs ms U l q kns4 ls4 us4 H' ∧ (n4 ∈ kns4 ∧ n4.key = g.key ∧ n4.at_ = n0.at_) ∧ H' sl = some (.lst (rows.map fun r => .ref r.1)) ∧ (∀ r ∈ rows, H' r.1 = some (.tup [.str r.2.1, .str r.2.2])) ∧ ls3 <+: ls4 ∧ H' q9 = some (.frz od (.dK (es.map entKV))) ∧ (∀ e ∈ es, SqT K H' e.at_ (intsV e.ks)) ∧
                (ls4 = ls → ∀ e ∈ es.take m, Says ls g.key.1 g.key.2 e.who))
              ⟨kns3, ls3, us3, n3, _, _, rfl, inv8.on s8A, ⟨hn3, hk3, ha3⟩, s8A _ _ hsl8, fun r hr => s8A _ _ (hrow8 r hr), List.prefix_refl _, hqA, EA.val, fun _ e he => by simp at he⟩ (fun m σ H' _ ⟨_, _, _, _, _, _, _, _, _, _, _, _, h, _⟩ => h) ?_ ?_⟩
            · rintro m y σ HE HF hm2 ⟨kns4, ls4, us4, n4, o8, o9, rfl, invE, ⟨hn4, hk4, ha4⟩, hslE, hrowE, pfE, hqE, hvE, clE⟩ ⟨T2, x2, y2, rfl, nT2, eF, hx2, hy2⟩
              rw [List.length_map] at hm2
              have he : es[m]? = some (es[m]'hm2) := List.getElem?_eq_getElem hm2
              generalize es[m]'hm2 = e at he
              have he' : (es.map entKV)[m]? = some (entKV e) := by rw [List.getElem?_map, he]; rfl
              dsimp only at hx2 hy2
              rw [he'] at hx2 hy2
              cases hx2
              cases hy2
              have hem := List.mem_of_getElem? he
              have etk : es.take (m + 1) = es.take m ++ [e] := by rw [List.take_add_one, he, Option.toList_some]
              have sEF : Same HE HF := by rw [eF]; exact upd_new nT2
              have hT2 : HF T2 = some (.tup [.str e.who, .ref e.at_]) := by rw [eF]; exact upd_same
              have invF := invE.on sEF
              have hslF := sEF _ _ hslE
              have hrowF : ∀ r ∈ rows, HF r.1 = some (.tup [.str r.2.1, .str r.2.2]) := fun r hr => sEF _ _ (hrowE r hr)
              have hqF := sEF _ _ hqE
              have hvF : ∀ e ∈ es, SqT K HF e.at_ (intsV e.ks) := fun e he => sq_t sEF (hvE e he)
              have hown4 : HF n0.at_ = some (.dK (n4.ms.map msKV)) := by rw [← ha4]; exact invF.kn.val n4 hn4
              have lus4 := dpAll_len invF.dat
              have l40 := invF.mlen hn4
              have bd4 := invF.kn.bound invF.key invF.sub
              rw [List.length_map] at bd4
              have bd5 : ls4.length ≤ 24 * 40 := Nat.le_trans bd4 (Nat.mul_le_mul g24 hU)
              refine ⟨T2, _, rfl, st_of hT2, rfl, ?_⟩
              refine ⟨_, _, rfl, ?_⟩
              refine ⟨_, _, rfl, ?_⟩
              refine ⟨rfl, ?_⟩
              walk_at "go"
              refine ⟨n0.at_, _, rfl, .inl ⟨_, .inr e.who, .inl hown4, rfl, rfl⟩, ?_⟩
              generalize hv2 : valV (n4.ms.map msKV) (Sum.inr e.who) = ov
              cases ov with
              | some v =>
                refine ⟨_, rfl, iteN rfl ?_⟩
                walk_at "go"
                refine ⟨kns4, ls4, us4, n4, _, _, rfl, invF, ⟨hn4, hk4, ha4⟩, hslF, hrowF, pfE, hqF, hvF, fun el x hx => ?_⟩
                rw [etk] at hx
                rcases List.mem_append.mp hx with hx | hx
                · exact clE el x hx
                · rw [List.mem_singleton.mp hx]
                  refine Classical.byContradiction fun hno => ?_
                  rw [ms_none.mpr fun z hz ez => hno ?_] at hv2
                  · cases hv2
                  · obtain ⟨l', h1, h2, h3, h4⟩ := invF.kn.has n4 hn4 z hz
                    rw [hk4] at h2 h3
                    rw [el] at h1
                    exact ⟨_, l', h1, h2, h3, h4.trans ez⟩
              | none =>
                refine ⟨_, rfl, iteK rfl ?_⟩
                walk_at "go"
                refine ⟨_, us4.length, rfl, .inl ⟨_, sq_of invF.lst, rfl⟩, ?_⟩
                walk_at "go"
                refine ⟨n0.at_, _, rfl, DPut.k (k := .inr e.who) hown4 (sz_lt (by rw [List.length_map]; omega)), kPut fun HG wG hG => ?_⟩
                rw [putK_new _ hv2] at hG
                have fresh := ms_none.mp hv2
                have lG : HG l = some (.lst us4) := wG _ _ (fun z => by have := invF.lst; rw [z, hown4] at this; cases this) invF.lst
                have hprG : HG ad = some (.tup [.str g.key.1, .str g.key.2]) := bt_tup wG hown4 rfl (hrowF _ hrm)
                walk_at "go"
                refine ⟨.inl ⟨rfl, _, sq_of lG⟩, ?_⟩
                walk_at "go"
                refine ⟨ad, _, rfl, .inl (st_of hprG), ?_⟩
                walk_at "go"
                refine ⟨by show 5 ≤ sizeLine; decide, fun pn np => kNew np fun HH sH hp => ?_⟩
                have lH := sH _ _ lG
                refine ⟨l, _, _, rfl, rfl, lH, sz_lt (by omega), kPut fun HI wI hI => ?_⟩
                walk_at "go"
                have hp : HH pn = some (.tup [.str g.key.1, .str g.key.2, .str e.who, .int (n.ix : Int), .ref e.at_]) := hp
                have hvG : ∀ e ∈ es, SqT K HG e.at_ (intsV e.ks) := fun e he => bt_t wG hown4 rfl (hvF e he)
                have hvH : ∀ e ∈ es, SqT K HH e.at_ (intsV e.ks) := fun e he => sq_t sH (hvG e he)
                have led : LedC ls4 n.chain e.ks e.who := by
                  rw [hc]
                  exact Led.mono (pre_at pfE) _ _ _ _ (E9.led e hem)
                have hUe : e.who ∈ U := by
                  rcases List.mem_cons.mp (E9.sub e hem) with h | h
                  · rw [h]
                    exact hd n hnm p0 r hc
                  · exact h
                have gk4 : (g.key.1, g.key.2) = n4.key := by rw [hk4]
                have hdl : Dp K HH (.ref pn) (dLine ⟨g.key.1, g.key.2, e.who, n.ix, e.ks⟩) := .tup (st_of hp) (.cons (.str _) (.cons (.str _) (.cons (.str _) (.cons (.int _) (.cons (.tup (hvH e hem) (dpl_all e.ks)) .nil)))))
                have hG2 : HG n4.at_ = some (.dK ((n4.ms ++ [(e.who, ls4.length)]).map msKV)) := by
                  rw [ha4, hG, List.map_append, ← lus4]
                  rfl
                have invI : AInv K H gs ms U l q (kns4.map (grow n4 e.who ls4.length)) (ls4 ++ [⟨g.key.1, g.key.2, e.who, n.ix, e.ks⟩]) (us4 ++ [.ref pn]) HI :=
                  invF.put hn4 (z := ⟨g.key.1, g.key.2, e.who, n.ix, e.ks⟩) fresh gk4 nl (by rw [ha4]; exact wG) hG2 sH hdl wI hI (invF.right.snoc hnm rfl (by rw [← hown]) (by rw [← hown]) led) hUe
                have ql9 : q9 ≠ l := fun z => by rw [z, invF.lst] at hqF; cases hqF
                have q90 : q9 ≠ n0.at_ := fun z => by rw [z, hown4] at hqF; cases hqF
                have sl0 : sl ≠ n0.at_ := fun z => by rw [z, hown4] at hslF; cases hslF
                refine ⟨_, _, _, grow n4 e.who ls4.length n4, _, _, rfl, invI, ⟨List.mem_map.mpr ⟨n4, hn4, rfl⟩, by rw [grow_key]; exact hk4, by rw [grow_at]; exact ha4⟩, wI _ _ nsll (sH _ _ (wG _ _ sl0 hslF)), fun r hr => bt_tup wI lH rfl (sH _ _ (bt_tup wG hown4 rfl (hrowF r hr))), pfE.trans (List.prefix_append _ _), wI _ _ ql9 (sH _ _ (wG _ _ q90 hqF)), fun e he => bt_t wI lH rfl (hvH e he), fun el => absurd el (pre_snoc (pf5.trans (pf8.trans pfE)))⟩
            · rintro σ HE ⟨kns4, ls4, us4, n4, o8, o9, rfl, invE, h4, hslE, hrowE, pfE, hqE, hvE, clE⟩
              rw [List.length_map, List.take_length] at clE
              refine ⟨kns4, ls4, us4, n4, _, _, _, _, rfl, invE, h4, hslE, hrowE, pf8.trans pfE, fun el n' hn' x hx => ?_⟩
              have e3 : ls3 = ls := pre_eq (pf5.trans pf8) pfE el
              rw [tkj] at hn'
              rcases List.mem_append.mp hn' with hn' | hn'
              · exact cl8 e3 n' hn' x hx
              · rw [List.mem_singleton.mp hn'] at hx ⊢
                rw [hc] at hx
                obtain ⟨e, he, ew⟩ := all9 x (by rw [e3]; exact hx)
                have z := clE el e he
                rw [ew, ← hown] at z
                exact z
          · rintro σ H8 ⟨kns3, ls3, us3, n3, o6, o7, o8, o9, rfl, inv8, h3, hsl8, hrow8, pf8, cl8⟩
            rw [lvs, List.take_length] at cl8
            refine ⟨kns3, ls3, us3, _, _, _, _, _, _, rfl, inv8, hsl8, hrow8, pf5.trans pf8, fun el g' hg' hk' n hn x hx => ?_⟩
            rw [tki] at hk'
            rcases List.mem_append.mp hk' with hk' | hk'
            · exact cl5 (pre_eq pf5 pf8 el) g' hg' hk' n hn x hx
            · rw [key_inj N.g.nd hg' hgm (List.mem_singleton.mp hk')] at hn
              exact cl8 el n hn x hx
        · rcases kns_get (kns := kns') g.key with ⟨h, _⟩ | ⟨n, hn, hk, h⟩
          · rw [h] at hv
            cases hv
          · rw [h] at hv
            cases hv
            exact ⟨kns', n, rfl, hn, hk, inv6, s6 _ _ hsl5, fun r hr => s6 _ _ (hrow5 r hr)⟩
        · have no : ∀ n ∈ kns', n.key ≠ g.key := by
            rcases kns_get (kns := kns') g.key with ⟨_, h⟩ | ⟨n, hn, hk, h⟩
            · exact h
            · rw [h] at hv
              cases hv
          have slq : sl ≠ q := fun z => by rw [z, inv5.kn.at_] at hsl5; cases hsl5
          exact ⟨_, ⟨g.key, e, []⟩, rfl, List.mem_append_right _ List.mem_cons_self, rfl, inv6.ext nq0 he (none_of inv5.same ne) (List.mem_map.mpr ⟨g, hgm, rfl⟩) no (fun n hn => ne_of_none (inv5.kn.val n hn) ne) hv, by rw [upd_ne slq]; exact s6 _ _ hsl5, fun r hr => bt_tup upd_but inv6.kn.at_ rfl (s6 _ _ (hrow5 r hr))⟩
      · rintro σ H5 ⟨kns', ls', us', o4, o5, o6, o7, o8, o9, rfl, inv', hsl5, hrow5, pf5, cl5⟩
        have bd' := inv'.kn.bound inv'.key inv'.sub
        rw [List.length_map] at bd' cl5
        rw [List.take_length] at cl5
        have hle := pf5.length_le
        refine ⟨m - (ls.length - many).toNat, by omega, kns', ls', us', ls.length, _, _, _, _, _, _, rfl, inv', by omega, by omega, by omega, fun e => ?_⟩
        have e2 : ls' = ls := (pf5.eq_of_length (by omega)).symm
        rw [e2]
        intro n hn x hx
        obtain ⟨g, hg, hng⟩ := (N.g.all n).mp hn
        exact cl5 e2 g hg (pm.mem_iff.mpr (List.mem_map.mpr ⟨g, hg, rfl⟩)) n hng x hx
    · walk_at "go"
      have cl2 := cl (by omega)
      refine ⟨by show 2 ≤ sizeLine; decide, fun t nt => kNew nt fun H4 s4 ht => ?_⟩
      exact k t q l kns ls us H4 (inv.same.trans s4) (st_of ht) (s4 _ _ inv.lst) (dpAll_same s4 inv.dat) (inv.kn.same s4) inv.right cl2 inv.sub bd
end
end NC
-- NcP7
set_option Elab.async false
set_option linter.all false
set_option maxRecDepth 100000
set_option maxHeartbeats 4000000
namespace NC
local macro_rules | `(tactic| walk_at "go") => `(tactic| (repeat (first
  | (refine ⟨_, rfl, ?_⟩)
  | (refine ⟨_, _, rfl, rfl, ?_⟩)
  | (refine ⟨_, _, rfl, ?_⟩)
  | (refine ⟨_, _, _, rfl, ?_⟩)
  | (refine Or.inl ⟨_, rfl, ?_⟩)
  | (refine iteT ?_)
  | (refine iteF ?_))))
open PySem PySem.Spec PyProof.Rows L2 PySem.W
def spYes (K : PySem.W.Frag) : Sp := fun vs H Q _ => ∃ (d r : Addr) (gs : List Grp) (ms : List (Nam Str)) (U : List Str) (c : List Str) (who : Str), vs = [.ref d, .ref r, .str who] ∧ NamedT K H d gs ms ∧ U.length ≤ 40 ∧ gs.length * U.length < 64 ∧ (∀ n ∈ ms, ∀ p r, n.chain = p :: r → p ∈ U) ∧ SqT K H r (c.map V.str) ∧ c ≠ [] ∧ c.length ≤ 20 ∧
  (∀ H', Same H H' → ¬ ReachC (Lfp ms) c who → Q .non H') ∧
  ∀ q ls ks H', Same H H' → Dp K H' (.ref q) (dPaper (.yes ls ks)) → ReachC (Lfp ms) c who → AllRight ms ls → (∀ l ∈ ls, l.q ∈ U) → LedC ls c ks who → ls.length ≤ 64 → Q (.ref q) H'
theorem nu_val0 : ∀ (us : List Nat) (n z : Nat), z ∈ us → valV ((us.zipIdx n).map fun p => ((Sum.inl (p.1 : Int) : Key), V.int (p.2 : Int))) (Sum.inl (z : Int)) = some (.int ((n + us.idxOf z : Nat) : Int))
  | u :: us, n, z, h => by
    by_cases e : u = z
    · rw [List.zipIdx_cons, List.map_cons, valV_pos (by show (Sum.inl (u : Int) : Key) = Sum.inl (z : Int); rw [e]), e, List.idxOf_cons_self]
      rfl
    · rw [List.zipIdx_cons, List.map_cons, valV_neg (fun q => e (us_inj q)), nu_val0 us (n + 1) z ((List.mem_cons.mp h).resolve_left fun q => e q.symm), List.idxOf_cons, show (u == z) = false by simpa using e, cond_false]
      congr 3
      omega
theorem nu_val {us : List Nat} {z : Nat} (h : z ∈ us) : valV (nuKV us) (Sum.inl (z : Int)) = some (.int (renum us z : Int)) := by
  have q := nu_val0 us 0 z h
  rw [Nat.zero_add] at q
  exact q
theorem nu_at {us : List Nat} {i : Nat} {k : Key} {v : V} (h : (nuKV us)[i]? = some (k, v)) : ∃ u, us[i]? = some u ∧ k = Sum.inl (u : Int) := by
  unfold nuKV at h
  rw [List.getElem?_map, List.getElem?_zipIdx, Option.map_map] at h
  obtain ⟨u, hu, e⟩ := Option.map_eq_some_iff.mp h
  have e : ((Sum.inl (u : Int) : Key), V.int ((0 + i : Nat) : Int)) = (k, v) := e
  exact ⟨u, hu, (congrArg Prod.fst e).symm⟩
theorem frz_no {H : Hp} {p : Addr} {od : Obj} {kvs : List (Key × V)} (hp : H p = some (.frz od (.dK kvs))) : ∀ xs, ¬ (H p = some (.lst xs) ∨ (∃ o, H p = some (.frz o (.lst xs))) ∨ H p = some (.tup xs) ∨ ∃ o, H p = some (.frz o (.tup xs))) := by
  rintro xs (h | ⟨o, h⟩ | h | ⟨o, h⟩) <;> · rw [hp] at h; cases h
theorem says_lfp {ms : List (Nam Str)} {ls : List (Line Str)} (r : AllRight ms ls) (c : Closed ms (Says ls)) (p n x : Str) : Says ls p n x ↔ Lfp ms p n x :=
  Lfp.iff c (fun p n x ⟨i, l, h1, h2, h3, h4⟩ => by rw [← h2, ← h3, ← h4]; exact r.sound i l h1) p n x
theorem reachC_congr {T U : Str → Str → Str → Prop} (h : ∀ p n x, T p n x ↔ U p n x) {c : List Str} {x : Str} : ReachC T c x ↔ ReachC U c x := ⟨ReachC.mono (fun p n x => (h p n x).mp) c x, ReachC.mono (fun p n x => (h p n x).mpr) c x⟩
abbrev NN_yes_paper : List Str := ["named", "chain", "person", "lines", "known", "places", "new", "kept", "place"]
theorem sc_yes_paper : FnScope NN_yes_paper ["named", "chain", "person"] (defScope s_yes_paper) := ⟨rfl, rfl, rfl, by decide +kernel, rfl, by decide +kernel, by decide +kernel⟩
section
variable {P : Program} {w : World} {K : PySem.W.Frag} {mg : Str → Option Value} {base : Heap}
-- 0 named; 1 chain; 2 person; 3 lines; 4 known; 5 places; 6 new; 7 kept; 8 place
theorem cal_yes_paper (T : Txt K mg) : Cal P w K mg base 3 "yes_paper" (spYes K) := by
  have c_all_lines : Cal P w K mg base 2 "all_lines" (spAll K) := cal_all_lines T
  have c_routes : Cal P w K mg base 1 "routes" (spRoutes K) := cal_routes T
  have c_used_lines : Cal P w K mg base 1 "used_lines" (spUsed K) := cal_used_lines T
  have c_renewed : Cal P w K mg base 1 "renewed" (spRenewed K) := cal_renewed T
  refine cal_of T.f_yes_paper T.g_yes_paper sc_yes_paper (fun vs H Q E h => ?_) (fun _ _ _ _ _ _ us hl => match us, hl with | [_, _, _], _ => rfl) (fun cdv A outer s H vs Q E hr h => ?_)
  · obtain ⟨d, r, gs, ms, U, c, who, rfl, _⟩ := h
    rfl
  · obtain ⟨d, r, gs, ms, U, c, who, rfl, N, hU, h64, hd, hrow, hc, hcl, kN, kY⟩ := h
    have nd := sc_yes_paper.nd
    have hu := hu_of hr
    obtain ⟨p0, ns, rfl⟩ := List.exists_cons_of_ne_nil hc
    rw [List.length_cons] at hcl
    refine ⟨_, 
      (pss_cons (ps_asg (pe_c c_all_lines hr (by rfl) (pa_cons (pv 0) pa_nil)) (pg_tup rfl (pgs_cons (pg_name (i := 3) nd rfl (Or.inr rfl)) (pgs_cons (pg_name (i := 4) nd rfl (Or.inl rfl)) pgs_nil))))
      (pss_cons (ps_set (i := 5) nd rfl (Or.inl rfl) (pe_dget2 hu (pe_c c_routes hr (by rfl) (pa_cons (pv 4) (pa_cons (pv 1) pa_nil))) (pv 2) pe_non ⟨by rfl, by rfl, by rfl, by rfl⟩))
      (pss_cons (ps_if (pt_cmpR op_isN (pv 5) pe_non (nomark _)) 
        (pss_one (ps_ret pe_non)) pss_nil)
      (pss_cons (ps_set (i := 6) nd rfl (Or.inr rfl) (pe_c c_used_lines hr (by rfl) (pa_cons (pv 3) (pa_cons (pv 5) pa_nil))))
      (pss_cons (ps_lock (ps_setLc (i := 7) (own := [("place", 8)]) rfl nd rfl rfl (sw_true rfl rfl rfl (by decide +kernel)) (pi_keys (pv 6)) (blkOk_by (N := NN_yes_paper) (sc := defScope s_yes_paper) (by decide +kernel)) (fun _ _ _ _ _ => (pg_name (i := 8) nd rfl (Or.inl rfl))) (fun _ _ _ _ _ => pts_nil) (fun _ _ _ _ _ => (pe_op (show OpR _ _ (rCatA K) from op_catA) (pe_slice (show SlR _ (rSlA K) from sl_tupA) (pe_ix (show IxR _ (rIxL K) from ix_list) (pv 3) (pv 8) (fun _ _ => rfl)) po_none (po_some pe_int)) (pe_tup (pa_cons (pe_c c_renewed hr (by rfl) (pa_cons (pe_ix (show IxR _ (rIxT K) from ix_tup) (pe_ix (show IxR _ (rIxL K) from ix_list) (pv 3) (pv 8) (fun _ _ => rfl)) pe_int (fun _ _ => rfl)) (pa_cons (pv 6) pa_nil))) pa_nil))))))
      (pss_one (ps_ret (pe_tup (pa_cons pe_str (pa_cons (bT call_tuple_of T.n_tuple (pa_cons (pv 7) pa_nil)) (pa_cons (pe_c c_renewed hr (by rfl) (pa_cons (pv 5) (pa_cons (pv 6) pa_nil))) pa_nil))))))))))), ?_⟩
    walk_at "go"
    refine ⟨d, gs, ms, U, rfl, N, hU, hd, fun t q l kns ls us H1 s1 ht hl hus kn right cl sub bd => ?_⟩
    refine ⟨t, _, rfl, ht, rfl, ?_⟩
    refine ⟨_, _, rfl, ?_⟩
    refine ⟨_, _, rfl, ?_⟩
    refine ⟨rfl, ?_⟩
    walk_at "go"
    have eqv := fun x => reachC_congr (says_lfp right cl) (c := p0 :: ns) (x := x)
    refine ⟨q, r, kns, ls, U, p0, ns, rfl, kn, sub, hU, sq_t s1 hrow, by omega, fun q2 es H2 s2 nq2 hq2 E2 all2 => ?_⟩
    refine ⟨q2, rfl, .inl ⟨_, .inl hq2⟩, ?_⟩
    walk_at "go"
    refine ⟨_, DGet.k (k := .inr who) hq2, ?_⟩
    have s02 := s1.trans s2
    generalize hv : valV (es.map entKV) (Sum.inr who) = ov
    cases ov with
    | none =>
      walk_at "go"
      refine ⟨rfl, ?_⟩
      walk_at "go"
      refine kN H2 s02 fun h => ?_
      obtain ⟨e, he, ew⟩ := all2 who ((eqv who).mpr h)
      exact ents_none.mp hv e he ew
    | some v =>
      obtain ⟨e, he, rfl⟩ : ∃ e ∈ es, e.who = who := Classical.byContradiction fun hno => by
        rw [ents_none.mpr fun e he ew => hno ⟨e, he, ew⟩] at hv
        cases hv
      rw [ents_some E2.nd he] at hv
      cases hv
      have led := E2.led e he
      have kl := Led.len _ _ _ _ led
      have kb := Led.lt _ _ _ _ led
      have l64 : ls.length < 64 := Nat.lt_of_le_of_lt bd h64
      have hl2 := s2 _ _ hl
      have lb : ∀ (i : Nat) l, ls[i]? = some l → l.at_.length ≤ 20 ∧ ∀ k ∈ l.at_, k < i := fun i l hi => by
        obtain ⟨l', h1, n, hn, _, _, _, h5⟩ := right i (List.getElem?_eq_some_iff.mp hi).1
        rw [hi] at h1
        cases h1
        refine ⟨?_, fun k hk => ?_⟩
        · obtain ⟨c1, c2⟩ := N.g.chn n hn
          cases e : n.chain with
          | nil => exact absurd e c1
          | cons p r =>
            rw [e] at h5 c2
            rw [Led.len _ _ _ _ h5]
            rw [List.length_cons] at c2
            omega
        · have z := h5.lt k hk
          rw [List.length_take] at z
          omega
      walk_at "go"
      refine ⟨rfl, ?_⟩
      refine ⟨_, rfl, iteN (decide_eq_false (show ¬ (V.ref e.at_ = V.non) from fun z => nomatch z)) ?_⟩
      walk_at "go"
      refine ⟨l, e.at_, us, ls, e.ks, rfl, hl2, dpAll_same s2 hus, l64, E2.val e he, kb, by omega, lb, fun q3 xs H3 s3 nq3 hq3 asc bx kx cx => ?_⟩
      walk_at "go"
      have s03 := s02.trans s3
      have s13 := s2.trans s3
      refine ⟨q3, _, hq3, trivial, fun od => ?_⟩
      obtain ⟨H4, eH4⟩ : ∃ H4, upd H3 q3 (.frz od (.dK (nuKV xs))) = H4 := ⟨_, rfl⟩
      have hq4 : H4 q3 = some (.frz od (.dK (nuKV xs))) := by rw [← eH4]; exact upd_same
      have w34 : But q3 H3 H4 := by rw [← eH4]; exact upd_but
      have s24 : Same H2 H4 := But.new s3 w34 nq3
      rw [eH4]
      have kplen : (kept ls xs).length = xs.length := kept_len ls xs xs bx
      refine ⟨_, rfl, q3, od, rfl, .inl ⟨_, hq4, fun D nD => ?_⟩⟩
      have nq3D : q3 ≠ D := ne_of_none hq4 nD
      have xl : xs.length ≤ ls.length := addNs_len (asc.imp fun h => Nat.ne_of_lt h) bx
      refine lc_it walk_keys (fun i H' => But D H4 H' ∧ ∃ vs, H' D = some (.lst vs) ∧ DpAll K H' vs (((kept ls xs).take i).map dLine)) ⟨upd_but, [], upd_same, .nil⟩ (fun i H' _ ⟨w, _⟩ => w _ _ nq3D hq4) ?_ ?_
      · rintro i y _ H5 hi ⟨w5, vs, hD, hvs⟩ ⟨rfl, ky, vy, hky, rfl⟩
        obtain ⟨u, hux, rfl⟩ := nu_at hky
        have hum := List.mem_of_getElem? hux
        have hlu : ls[u]? = some (ls[u]'(bx u hum)) := List.getElem?_eq_getElem (bx u hum)
        generalize ls[u]'(bx u hum) = ln at hlu
        have s45 : Same H4 H5 := But.new (Same.refl H4) w5 nD
        have s25 := s24.trans s45
        obtain ⟨v, hv, hdv⟩ := dpAll_at (dpAll_same (s2.trans s25) hus) hlu
        obtain ⟨pl, pa, rfl, g1, g2⟩ := dp_line hdv
        have hl5 := (s2.trans s25) _ _ hl
        have lvs := dpAll_len hvs
        refine ⟨rfl, ?_⟩
        walk_at "go"
        refine ⟨l, _, _, _, rfl, rfl, sq_of hl5, at_nat (by omega) (by simpa using hv), ?_⟩
        walk_at "go"
        refine ⟨pl, _, rfl, g1, fun h => absurd h (take_new (by show 4 < 5; decide)), fun _ p4 np4 => kNew np4 fun H6 s6 hp4 => ?_⟩
        walk_at "go"
        have s56 := s6
        refine ⟨l, _, _, _, rfl, rfl, sq_of (s6 _ _ hl5), at_nat (by omega) (by simpa using hv), ?_⟩
        walk_at "go"
        refine ⟨pl, _, _, _, rfl, rfl, sq_t s6 g1, rfl, ?_⟩
        walk_at "go"
        refine ⟨pa, q3, ln.at_, nuKV xs, renum xs, rfl, sq_t s6 g2, .inr ⟨od, s6 _ _ (s45 _ _ hq4)⟩, fun k hk => nu_val (cx u hum ln hlu k hk), (lb u ln hlu).1, fun pr H7 s7 npr hpr => ?_⟩
        walk_at "go"
        refine ⟨by show 1 ≤ sizeLine; decide, fun p1 np1 => kNew np1 fun H8 s8 hp1 => ?_⟩
        have hp4' : H6 p4 = some (.tup [.str ln.p, .str ln.n, .str ln.q, .int (ln.ix : Int)]) := hp4
        refine ⟨p4, p1, [.str ln.p, .str ln.n, .str ln.q, .int (ln.ix : Int)], [.ref pr], rfl, rfl, st_of ((s7.trans s8) _ _ hp4'), st_of hp1, by show 5 ≤ sizeLine; decide, (fun h => by cases h), (fun _ h => by cases h), fun _ _ p5 np5 => kNew np5 fun H9 s9 hp5 => ?_⟩
        have s59 := ((s6.trans s7).trans s8).trans s9
        have hp5 : H9 p5 = some (.tup [.str ln.p, .str ln.n, .str ln.q, .int (ln.ix : Int), .ref pr]) := hp5
        have kpi : (kept ls xs)[i]? = some { ln with at_ := ln.at_.map (renum xs) } := by
          have z := kept_eq ls xs xs bx i u hux
          rw [hlu] at z
          exact z
        refine ⟨vs, s59 _ _ hD, sz_lt (by rw [lvs, List.length_take]; omega), (w5.same s59).trans upd_but, vs ++ [.ref p5], upd_same, ?_⟩
        rw [List.take_add_one, kpi, Option.toList_some, List.map_append]
        refine dp_butFAll upd_but (s59 _ _ hD) rfl _ _ ?_ (dpAll_app (dpAll_same s59 hvs) (.cons (.tup (st_of hp5) (.cons (.str _) (.cons (.str _) (.cons (.str _) (.cons (.int _) (.cons (.tup (sq_t (s8.trans s9) hpr) (dpl_all _)) .nil)))))) .nil))
        rw [← List.map_append]
        exact noList_lines _
      · rintro H5 ⟨w5, vs, hD, hvs⟩
        have lnu : (nuKV xs).length = xs.length := by unfold nuKV; rw [List.length_map, List.length_zipIdx]
        rw [lnu, ← kplen, List.take_length] at hvs
        have hq5 := w5 _ _ nq3D hq4
        walk_at "go"
        refine ⟨hq5, ?_⟩
        have s45 : Same H4 H5 := But.new (Same.refl H4) w5 nD
        obtain ⟨H6, eH6⟩ : ∃ H6, upd H5 q3 (.dK (nuKV xs)) = H6 := ⟨_, rfl⟩
        have w56 : But q3 H5 H6 := by rw [← eH6]; exact upd_but
        have hq6 : H6 q3 = some (.dK (nuKV xs)) := by rw [← eH6]; exact upd_same
        rw [eH6]
        have s26 : Same H2 H6 := But.new (s24.trans s45) w56 nq3
        have hD6 : H6 D = some (.lst vs) := w56 _ _ (Ne.symm nq3D) hD
        have hvs6 : DpAll K H6 vs ((kept ls xs).map dLine) := dp_butAll w56 (frz_no hq5) _ _ hvs
        walk_at "go"
        refine ⟨D, _, rfl, .inl ⟨sq_of hD6, fun tk ntk => kNew ntk fun H7 s7 htk => ?_⟩⟩
        walk_at "go"
        refine ⟨e.at_, q3, e.ks, nuKV xs, renum xs, rfl, sq_t (s26.trans s7) (E2.val e he), .inl (s7 _ _ hq6), fun k hk => nu_val (kx k hk), by omega, fun pr H8 s8 npr hpr => ?_⟩
        walk_at "go"
        refine ⟨by show 3 ≤ sizeLine; decide, fun p3 np3 => kNew np3 fun H9 s9 hp3 => ?_⟩
        have s69 := (s7.trans s8).trans s9
        refine kY p3 (kept ls xs) (e.ks.map (renum xs)) H9 (s02.trans (s26.trans s69)) ?_ ?_ (kept_right right bx asc cx) (fun z hz => ?_) (kept_led bx asc kx (c := p0 :: ns) led) (by rw [kplen]; omega)
        · exact .tup (st_of hp3) (.cons (.str _) (.cons (.tup (st_of ((s8.trans s9) _ _ htk)) (dpAll_same s69 hvs6)) (.cons (.tup (sq_t s9 hpr) (dpl_all _)) .nil)))
        · refine (eqv e.who).mp (Led.reach (fun k l hk => ⟨k, l, hk, rfl, rfl, rfl⟩) _ _ _ _ led)
        · obtain ⟨i, hi⟩ := List.mem_iff_getElem?.mp hz
          have hil : i < xs.length := by rw [← kplen]; exact (List.getElem?_eq_some_iff.mp hi).1
          have z3 : (kept ls xs)[i]? = _ := kept_eq ls xs xs bx i _ (List.getElem?_eq_getElem hil)
          rw [hi, List.getElem?_eq_getElem (bx _ (List.getElem_mem hil))] at z3
          cases z3
          show (ls[xs[i]]'(bx _ (List.getElem_mem hil))).q ∈ U
          exact sub _ (List.getElem_mem _)
end
end NC
-- NcCls
set_option Elab.async false
set_option linter.all false
set_option maxRecDepth 100000
set_option maxHeartbeats 4000000
namespace NC
local macro_rules | `(tactic| walk_at "go") => `(tactic| (repeat (first
  | (refine ⟨_, rfl, ?_⟩)
  | (refine ⟨_, _, rfl, rfl, ?_⟩)
  | (refine ⟨_, _, rfl, ?_⟩)
  | (refine ⟨_, _, _, rfl, ?_⟩)
  | (refine Or.inl ⟨_, rfl, ?_⟩)
  | (refine iteT ?_)
  | (refine iteF ?_))))
open PySem PySem.Spec PyProof.Rows L2 PySem.W NdefX
/-- an instance of the program's statement classes -/
def Stm (K : PySem.W.Frag) (H : Hp) (v : V) : Plain → Prop
  | .nam who word c b e => ∃ a dx pc pd, v = .ref a ∧ H a = some (.ins (He.ga K "Naming") dx [("own_person", .str who), ("own_days", .ref pd), ("own_name", .str word), ("own_chain", .ref pc)]) ∧ SqT K H pc (c.map V.str) ∧ SqT K H pd [.int b, .int e]
  | .lev who g t1 t2 b e o => ∃ a dx pg pt pd vo, v = .ref a ∧ H a = some (.ins (He.ga K "Leave") dx [("own_person", .str who), ("own_days", .ref pd), ("own_subject", .ref pg), ("own_tags", .ref pt), ("own_times", vo)]) ∧ Dp K H (.ref pg) (dSubj g) ∧ SqT K H pt [.int t1, .int t2] ∧ SqT K H pd [.int b, .int e] ∧ Dp K H vo (dOpt o)
theorem Stm.same {K : PySem.W.Frag} {H H' : Hp} {v : V} (s : Same H H') : ∀ {p : Plain}, Stm K H v p → Stm K H' v p
  | .nam .., ⟨a, dx, pc, pd, e, h, h1, h2⟩ => ⟨a, dx, pc, pd, e, s _ _ h, sq_t s h1, sq_t s h2⟩
  | .lev .., ⟨a, dx, pg, pt, pd, vo, e, h, h1, h2, h3, h4⟩ => ⟨a, dx, pg, pt, pd, vo, e, s _ _ h, dp_same s _ _ h1, sq_t s h2, sq_t s h3, dp_same s _ _ h4⟩
def spStInit (K : PySem.W.Frag) : Sp := fun vs H Q _ => ∃ (x C dx pd : Addr) (who : Str) (b e : Int), vs = [.ref x, .str who, .ref pd] ∧ H x = some (.ins C dx []) ∧ Cls K C ∧ NoAttr K C "own_person" ∧ NoAttr K C "own_days" ∧ SqT K H pd [.int b, .int e] ∧ SpanOk b e ∧
  ∀ H', But x H H' → H' x = some (.ins C dx [("own_person", .str who), ("own_days", .ref pd)]) → Q .non H'
def spNamInit (K : PySem.W.Frag) : Sp := fun vs H Q _ => ∃ (x dx pc pd : Addr) (who word : Str) (c : List Str) (b e : Int), vs = [.ref x, .str who, .str word, .ref pc, .ref pd] ∧ H x = some (.ins (He.ga K "Naming") dx []) ∧ SqT K H pc (c.map V.str) ∧ SqT K H pd [.int b, .int e] ∧ PlainOk (.nam who word c b e) ∧
  ∀ H', But x H H' → H' x = some (.ins (He.ga K "Naming") dx [("own_person", .str who), ("own_days", .ref pd), ("own_name", .str word), ("own_chain", .ref pc)]) → Q .non H'
/-- facts() of a naming, of a leave -/
def spFactsN (K : PySem.W.Frag) : Sp := fun vs H Q _ => ∃ (v : V) (who word : Str) (c : List Str) (b e : Int), vs = [v] ∧ Stm K H v (.nam who word c b e) ∧ ∀ q H', Same H H' → H q = none → Hd K H' (.ref q) (Fact.mk (.nam who word c b e)) → Q (.ref q) H'
def spFactsL (K : PySem.W.Frag) : Sp := fun vs H Q _ => ∃ (v : V) (who : Str) (g : Subj) (t1 t2 b e : Int) (o : Option Int), vs = [v] ∧ Stm K H v (.lev who g t1 t2 b e o) ∧ ∀ q H', Same H H' → H q = none → Hd K H' (.ref q) (Fact.mk (.lev who g t1 t2 b e o)) → Q (.ref q) H'
/-- the chains of a subject -/
def chainsOf : Subj → List (List Str)
  | .one c => [c]
  | .some _ cs => cs
def spNeeded (K : PySem.W.Frag) : Sp := fun vs H Q _ => ∃ (v : V) (who : Str) (g : Subj) (t1 t2 b e : Int) (o : Option Int), vs = [v] ∧ Stm K H v (.lev who g t1 t2 b e o) ∧ SubjOk g ∧ ∀ (q p : Addr) (u : V) (us : List V) H', Same H H' → SqT K H' q [u, .ref p] → SqT K H' p us → DpAll K H' us ((chainsOf g).map dChain) → Q (.ref q) H'
abbrev NN_Statement__init : List Str := ["self", "person", "days"]
theorem sc_Statement_init : FnScope NN_Statement__init ["self", "person", "days"] (defScope s_Statement_init) := ⟨rfl, rfl, rfl, by decide +kernel, rfl, by decide +kernel, by decide +kernel⟩
abbrev NN_Naming_facts : List Str := ["self"]
theorem sc_Naming_facts : FnScope NN_Naming_facts ["self"] (defScope s_Naming_facts) := ⟨rfl, rfl, rfl, by decide +kernel, rfl, by decide +kernel, by decide +kernel⟩
abbrev NN_Leave_facts : List Str := ["self"]
theorem sc_Leave_facts : FnScope NN_Leave_facts ["self"] (defScope s_Leave_facts) := ⟨rfl, rfl, rfl, by decide +kernel, rfl, by decide +kernel, by decide +kernel⟩
abbrev NN_Leave_needed : List Str := ["self"]
theorem sc_Leave_needed : FnScope NN_Leave_needed ["self"] (defScope s_Leave_needed) := ⟨rfl, rfl, rfl, by decide +kernel, rfl, by decide +kernel, by decide +kernel⟩
abbrev NN_Naming_init : List Str := ["self", "person", "name", "chain", "days", "__class__"]
theorem sc_Naming_init : NScope NN_Naming_init ["self", "person", "name", "chain", "days"] ["__class__"] (defScope s_Naming_init) := nscope_by (by decide +kernel)
section
variable {P : Program} {w : World} {K : PySem.W.Frag} {mg : Str → Option Value} {base : Heap}
theorem m_Statement_init (T : Txt K mg) : MthOk P w K mg base 4 (He.ma K (He.ga K "Statement") "__init__") ["self", "person", "days"] (spStInit K) := by
  have c_is_stretch : Cal P w K mg base 3 "is_stretch" (spIsStretch K) := cal_is_stretch T
  refine mth_of T.f_Statement_init sc_Statement_init (fun vs H Q E h => ?_) (fun _ _ _ _ _ _ us hl => match us, hl with | [_, _, _], _ => rfl) (fun cdv A outer s H vs Q E hr h => ?_)
  · obtain ⟨x, C, dx, pd, who, b, e, rfl, _⟩ := h
    rfl
  · obtain ⟨x, C, dx, pd, who, b, e, rfl, hx, cl, n1, n2, hpd, ok, k⟩ := h
    have nd := (sc_Statement_init).nd
    refine ⟨_, 
      (pss_cons (ps_if (PW.pt (pw_and (pt_cmpR op_notN (pv 2) pe_non (nomark _)) (pw_and1 (pt_not (pt_val (pe_c c_is_stretch hr (by rfl) (pa_cons (pv 2) pa_nil))))))) 
        (pss_one ps_never) pss_nil)
      (pss_cons (ps_fld (pv 0) (pv 1) rfl)
      (pss_one (ps_fld (pv 0) (pe_ifExp (pt_cmpR op_isN (pv 2) pe_non (nomark _)) pe_never (pv 2)) rfl)))), ?_⟩
    walk_at "go"
    have ne : ¬ (V.ref pd = V.non) := fun z => nomatch z
    refine ⟨rfl, ?_⟩
    refine ⟨_, rfl, iteK (by rw [decide_eq_false ne]; rfl) ?_⟩
    walk_at "go"
    refine ⟨pd, b, e, rfl, hpd, ok, ?_⟩
    walk_at "go"
    refine ⟨x, C, dx, _, rfl, hx, cl, n1, by show 0 < 1000; decide, kPut fun H1 w1 h1 => ?_⟩
    walk_at "go"
    refine ⟨rfl, ?_⟩
    refine ⟨_, rfl, iteN (decide_eq_false ne) ?_⟩
    walk_at "go"
    refine ⟨x, C, dx, _, rfl, h1, cl, n2, by show 1 < 1000; decide, kPut fun H2 w2 h2 => ?_⟩
    exact k H2 (w1.trans w2) h2
theorem dp_chain0 {H : Hp} {c : List Str} {a : Addr} (h : SqT K H a (c.map V.str)) : Dp K H (.ref a) (dChain c) := .tup h (dpAll_strs c)
theorem dp_pair0 {H : Hp} {x y : Int} {a : Addr} (h : SqT K H a [.int x, .int y]) : Dp K H (.ref a) (dPair x y) := .tup h (.cons (.int x) (.cons (.int y) .nil))
theorem m_Naming_facts (T : Txt K mg) : MthOk P w K mg base 1 (He.ma K (He.ga K "Naming") "facts") ["self"] (spFactsN K) := by
  refine mth_of T.f_Naming_facts sc_Naming_facts (fun vs H Q E h => ?_) (fun _ _ _ _ _ _ us hl => match us, hl with | [_], _ => rfl) (fun cdv A outer s H vs Q E hr h => ?_)
  · obtain ⟨v, who, word, c, b, e, rfl, _⟩ := h
    rfl
  · obtain ⟨v, who, word, c, b, e, rfl, hs2, k⟩ := h
    have nd := (sc_Naming_facts).nd
    refine ⟨_, 
      (pss_one (ps_ret (pe_tup (pa_cons pe_str (pa_cons (pe_fld (pv 0) rfl) (pa_cons (pe_fld (pv 0) rfl) (pa_cons (pe_fld (pv 0) rfl) (pa_cons (pe_fld (pv 0) rfl) pa_nil)))))))), ?_⟩
    · obtain ⟨a, dx, pc, pd, rfl, ha, hpc, hpd⟩ := hs2
      walk_at "go"
      refine ⟨a, _, dx, _, _, rfl, ha, T.c_Naming, T.a_Naming_own_person, rfl, ?_⟩
      walk_at "go"
      refine ⟨a, _, dx, _, _, rfl, ha, T.c_Naming, T.a_Naming_own_name, rfl, ?_⟩
      walk_at "go"
      refine ⟨a, _, dx, _, _, rfl, ha, T.c_Naming, T.a_Naming_own_chain, rfl, ?_⟩
      walk_at "go"
      refine ⟨a, _, dx, _, _, rfl, ha, T.c_Naming, T.a_Naming_own_days, rfl, ?_⟩
      walk_at "go"
      refine ⟨by show 5 ≤ sizeLine; decide, fun q nq => kNew nq fun H1 s1 hq => ?_⟩
      exact k q H1 s1 nq (.tup (st_of hq) (.cons (.str _) (.cons (.str _) (.cons (.str _) (.cons (dp_chain0 (sq_t s1 hpc)) (.cons (dp_pair0 (sq_t s1 hpd)) .nil))))))
theorem m_Leave_facts (T : Txt K mg) : MthOk P w K mg base 1 (He.ma K (He.ga K "Leave") "facts") ["self"] (spFactsL K) := by
  refine mth_of T.f_Leave_facts sc_Leave_facts (fun vs H Q E h => ?_) (fun _ _ _ _ _ _ us hl => match us, hl with | [_], _ => rfl) (fun cdv A outer s H vs Q E hr h => ?_)
  · obtain ⟨v, who, g, t1, t2, b, e, o, rfl, _⟩ := h
    rfl
  · obtain ⟨v, who, g, t1, t2, b, e, o, rfl, hs2, k⟩ := h
    have nd := (sc_Leave_facts).nd
    refine ⟨_, 
      (pss_one (ps_ret (pe_tup (pa_cons pe_str (pa_cons (pe_fld (pv 0) rfl) (pa_cons (pe_fld (pv 0) rfl) (pa_cons (pe_fld (pv 0) rfl) (pa_cons (pe_fld (pv 0) rfl) (pa_cons (pe_fld (pv 0) rfl) pa_nil))))))))), ?_⟩
    · obtain ⟨a, dx, pg, pt, pd, vo, rfl, ha, hpg, hpt, hpd, hvo⟩ := hs2
      walk_at "go"
      refine ⟨a, _, dx, _, _, rfl, ha, T.c_Leave, T.a_Leave_own_person, rfl, ?_⟩
      walk_at "go"
      refine ⟨a, _, dx, _, _, rfl, ha, T.c_Leave, T.a_Leave_own_subject, rfl, ?_⟩
      walk_at "go"
      refine ⟨a, _, dx, _, _, rfl, ha, T.c_Leave, T.a_Leave_own_tags, rfl, ?_⟩
      walk_at "go"
      refine ⟨a, _, dx, _, _, rfl, ha, T.c_Leave, T.a_Leave_own_days, rfl, ?_⟩
      walk_at "go"
      refine ⟨a, _, dx, _, _, rfl, ha, T.c_Leave, T.a_Leave_own_times, rfl, ?_⟩
      walk_at "go"
      refine ⟨by show 6 ≤ sizeLine; decide, fun q nq => kNew nq fun H1 s1 hq => ?_⟩
      exact k q H1 s1 nq (.tup (st_of hq) (.cons (.str _) (.cons (.str _) (.cons (dp_same s1 _ _ hpg) (.cons (dp_pair0 (sq_t s1 hpt)) (.cons (dp_pair0 (sq_t s1 hpd)) (.cons (dp_same s1 _ _ hvo) .nil)))))))
theorem m_Leave_needed (T : Txt K mg) : MthOk P w K mg base 1 (He.ma K (He.ga K "Leave") "needed") ["self"] (spNeeded K) := by
  refine mth_of T.f_Leave_needed sc_Leave_needed (fun vs H Q E h => ?_) (fun _ _ _ _ _ _ us hl => match us, hl with | [_], _ => rfl) (fun cdv A outer s H vs Q E hr h => ?_)
  · obtain ⟨v, who, g, t1, t2, b, e, o, rfl, _⟩ := h
    rfl
  · obtain ⟨v, who, g, t1, t2, b, e, o, rfl, hs, ok, k⟩ := h
    have nd := (sc_Leave_needed).nd
    refine ⟨_, 
      (pss_cons (ps_if (pt_val (bB call_isi T.n_isinstance (pa_cons (pe_ix ix_tup (pe_fld (pv 0) rfl) pe_int (fun _ _ => rfl)) (pa_cons (pe_bltn (v := .ty "str") (by rfl) T.n_str (by decide +kernel) rfl) pa_nil)))) 
        (pss_one (ps_ret (pe_tup (pa_cons pe_int (pa_cons (pe_tup (pa_cons (pe_fld (pv 0) rfl) pa_nil)) pa_nil))))) pss_nil)
      (pss_one (ps_ret (pe_fld (pv 0) rfl)))), ?_⟩
    obtain ⟨a, dx, pg, pt, pd, vo, rfl, ha, hpg, hpt, hpd, hvo⟩ := hs
    walk_at "go"
    refine ⟨a, _, dx, _, _, rfl, ha, T.c_Leave, T.a_Leave_own_subject, rfl, ?_⟩
    walk_at "go"
    cases g with
    | one c =>
      obtain ⟨p0, ns, rfl⟩ : ∃ p0 ns, c = p0 :: ns := List.exists_cons_of_ne_nil fun z => by have := (show ChainOk 4 c from ok).1; rw [z] at this; cases this
      obtain ⟨pg', eg, q1⟩ := dp_chain hpg
      cases eg
      refine ⟨pg, _, _, _, rfl, rfl, q1, (show atI ((p0 :: ns).map V.str) 0 = some (.str p0) from at_nat (Int.le_refl 0) rfl), ?_⟩
      refine ⟨_, _, _, _, _, rfl, .ty _, ty_str p0, kit_ss, ?_⟩
      walk_at "go"
      refine ⟨a, _, dx, _, _, rfl, ha, T.c_Leave, T.a_Leave_own_subject, rfl, ?_⟩
      walk_at "go"
      refine ⟨by show 1 ≤ sizeLine; decide, fun q1' nq1 => kNew nq1 fun H1 s1 h1 => ?_⟩
      walk_at "go"
      refine ⟨by show 2 ≤ sizeLine; decide, fun q2 nq2 => kNew nq2 fun H2 s2 h2 => ?_⟩
      exact k q2 q1' _ [.ref pg] H2 (s1.trans s2) (st_of h2) (st_of (s2 _ _ h1)) (.cons (dp_chain0 (sq_t (s1.trans s2) q1)) .nil)
    | some k0 cs =>
      obtain ⟨pt2, us, e1, q1, hall⟩ : ∃ pt2 us, SqT K H pg [.int k0, .ref pt2] ∧ SqT K H pt2 us ∧ DpAll K H us (cs.map dChain) := by
        cases hpg with
        | tup h1 h2 =>
          cases h2 with
          | cons a1 h2 =>
            cases h2 with
            | cons a2 h2 =>
              cases h2
              cases a1
              cases a2 with
              | tup h3 h4 => exact ⟨_, _, h1, h3, h4⟩
      refine ⟨pg, _, _, _, rfl, rfl, e1, rfl, ?_⟩
      refine ⟨_, _, _, _, _, rfl, .ty _, ty_int k0, kit_is, ?_⟩
      walk_at "go"
      refine ⟨a, _, dx, _, _, rfl, ha, T.c_Leave, T.a_Leave_own_subject, rfl, ?_⟩
      exact k pg pt2 _ us H (Same.refl H) e1 q1 hall
end
end NC
-- NcCls2
set_option Elab.async false
set_option linter.all false
set_option maxRecDepth 100000
set_option maxHeartbeats 4000000
namespace NC
local macro_rules | `(tactic| walk_at "go") => `(tactic| (repeat (first
  | (refine ⟨_, rfl, ?_⟩)
  | (refine ⟨_, _, rfl, rfl, ?_⟩)
  | (refine ⟨_, _, rfl, ?_⟩)
  | (refine ⟨_, _, _, rfl, ?_⟩)
  | (refine Or.inl ⟨_, rfl, ?_⟩)
  | (refine iteT ?_)
  | (refine iteF ?_))))
open PySem PySem.Spec PyProof.Rows L2 PySem.W NdefX
section
variable {P : Program} {w : World} {K : PySem.W.Frag} {mg : Str → Option Value} {base : Heap}
theorem binds_dfl {name qual : Str} {params : Arguments} {body : List Stmt} {scope : Scope} {cl : List (Str × Addr)} {dV kV doc pm : Value} {an : Option Addr} {cdv ct : Value} {ps : List Str} {dvs : List V} (hD : DflV K dV dvs) (hne : dvs ≠ [])
    (h : ∀ (T : Addr) (us its : List Value), us.length = ps.length → its.length = dvs.length → ∃ k, bindArgs (PySem.W.fnX name qual params body scope cl (.ref T) kV doc pm an cdv ct) ⟨us, []⟩ = seqItems? (.ref T) >>= k ∧ k (some its.toArray) = pure (ps.zip us)) :
    Binds K (PySem.W.fnX name qual params body scope cl dV kV doc pm an cdv ct) ps [] := by
  rcases hD with ⟨e, _⟩ | ⟨_, T, o, its, m, rfl, lT, oT, rT⟩
  · exact absurd e hne
  · refine fun s us X hlen => ?_
    rw [List.append_nil] at hlen ⊢
    obtain ⟨k, e1, e2⟩ := h T us its hlen rT.length.symm
    refine BindsTo.of_looks fun M => ?_
    rw [e1]
    exact looks_items X lT oT (.of_pure e2)
theorem dfl_of {C m : Str} {dvs : List V} {oc : Value} {od : Option Addr} {fd : FuncData} {osl : Array (Option Value)} (h : dfB C m dvs K = true) (lk : K.lookup (He.ma K (He.ga K C) m) = some ⟨oc, od, .func fd, osl⟩) : DflV K fd.defaults dvs := by
  unfold dfB at h
  rw [lk] at h
  exact He.dflB_ok h
theorem mro_of {C D : Str} (h : mroB C D K = true) : ∃ cd, PySem.W.clsIn K (He.ga K C) = some cd ∧ cd.mro = [.ref (He.ga K C), .ref (He.ga K D), .type "object"] := by
  unfold mroB at h
  cases e : PySem.W.clsIn K (He.ga K C) with
  | none => rw [e] at h; cases h
  | some cd =>
    rw [e] at h
    exact ⟨cd, rfl, of_decide_eq_true h⟩
theorem fin_st (T : Txt K mg) : PySem.W.fnIn K (He.ma K (He.ga K "Statement") "__init__") = true := by
  obtain ⟨fd, F⟩ := T.f_Statement_init
  obtain ⟨oc, od, dV, kV, doc, pm, an, cdv, ct, osl, _, lk, _⟩ := F.ex
  have lk : K.lookup (He.ma K (He.ga K "Statement") "__init__") = _ := lk
  unfold PySem.W.fnIn
  rw [lk]
theorem m_Naming_init (T : Txt K mg) (hP : PrgOk P) : MthOk P w K mg base 5 (He.ma K (He.ga K "Naming") "__init__") ["self", "person", "name", "chain", "days"] (spNamInit K) := by
  have c_is_word : Cal P w K mg base 1 "is_word" (spIsWord K) := cal_is_wordP T
  have c_is_chain : Cal P w K mg base 2 "is_chain" (spIsChain K) := cal_is_chain T
  obtain ⟨fd, F⟩ := T.fx 0 (d := x_Naming_init)
  have al := He.ba (T.xf 13 (f := alongB "Statement" "__init__"))
  obtain ⟨cc, cda, D⟩ := sup_of (C := He.ga K "Naming") (g := He.ma K (He.ga K "Statement") "__init__") F rfl (T.xf 3 (f := cellB "Naming" "__init__")) (T.xf 15 (f := fileB "Naming" "__init__")) (mro_of (T.xf 11 (f := mroB "Naming" "Statement"))) (He.eqO_ok al.1) (of_decide_eq_true al.2) (fin_st T) (He.eqO_ok (T.xf 14 (f := fun K => He.eqO (PySem.W.nsIn K cStatics "thirdparty.any") (some none))))
  refine ⟨fd, fn_super (p0 := _) (p1 := _) (p2 := _) (p3 := _) (p4 := _) (e := _) (es := _) (pre := (defBody s_Naming_init).take 3) (post := (defBody s_Naming_init).drop 4) D (by rw [hP.file]; exact beq_self_eq_true _) hP.sup T.n_super sc_Naming_init (show (defScope s_Naming_init).names.lookup ("super" : Str) = some .globalImplicit by decide +kernel) rfl rfl (fun vs H Q E h => ?_) (m_Statement_init T).fnR (by decide) rfl (fun A outer s H vs Q E hr h => ?_) (fun A outer s H E => ⟨⟨_, rfl⟩, rfl, rfl, rfl, rfl⟩), ?_⟩
  · obtain ⟨x, dx, pc, pd, who, word, c, b, e, rfl, _⟩ := h
    rfl
  · obtain ⟨x, dx, pc, pd, who, word, c, b, e, rfl, hx, hpc, hpd, ok, k⟩ := h
    obtain ⟨o1, o2, o3, o4⟩ := ok
    have nd := sc_Naming_init.nd
    refine ⟨_, _, _, 
      (pss_cons (ps_if (pt_not (pt_val (pe_c c_is_word hr (by rfl) (pa_cons (pv 1) pa_nil)))) 
        (pss_one ps_never) pss_nil)
      (pss_cons (ps_if (pt_not (pt_val (pe_c c_is_word hr (by rfl) (pa_cons (pv 2) pa_nil)))) 
        (pss_one ps_never) pss_nil)
      (pss_one (ps_if (pt_not (pt_val (pe_c c_is_chain hr (by rfl) (pa_cons (pv 3) (pa_cons (pe_gi T.i_MAX_NAMES) pa_nil))))) 
        (pss_one ps_never) pss_nil)))), (pa_cons (pv 1) (pa_cons (pv 4) pa_nil)), 
      (pss_cons (ps_fld (pv 0) (pv 2) rfl)
      (pss_one (ps_fld (pv 0) (pv 3) rfl))), ?_⟩
    walk_at "go"
    refine ⟨o1, fun H1 s1 => ?_⟩
    walk_at "go"
    refine ⟨o2, fun H2 s2 => ?_⟩
    walk_at "go"
    have s02 := s1.trans s2
    refine .inl ⟨c, sq_t s02 hpc, o3, fun H3 s3 => ?_⟩
    walk_at "go"
    have s03 := s02.trans s3
    have hx3 := s03 _ _ hx
    refine ⟨x, dx, [], rfl, hx3, ?_⟩
    walk_at "go"
    refine ⟨x, He.ga K "Naming", dx, pd, who, b, e, rfl, hx3, T.c_Naming, T.a_Naming_own_person, T.a_Naming_own_days, sq_t s03 hpd, o4, fun H4 w4 h4 => ?_⟩
    walk_at "go"
    refine ⟨x, _, dx, _, rfl, h4, T.c_Naming, T.a_Naming_own_name, by show 2 < 1000; decide, kPut fun H5 w5 h5 => ?_⟩
    walk_at "go"
    refine ⟨x, _, dx, _, rfl, h5, T.c_Naming, T.a_Naming_own_chain, by show 3 < 1000; decide, kPut fun H6 w6 h6 => ?_⟩
    exact k H6 (Same.but s03 (w4.trans (w5.trans w6))) h6
  · obtain ⟨oc, od, dV, kV, doc, pm, an, cdv, ct, osl, clo, rfl, hc1, lk, hcode⟩ := F.ex
    have z := dfl_of (T.xf 17 (f := dfB "Naming" "__init__" [.non])) lk
    refine binds_dfl z (List.cons_ne_nil _ _) fun T us its h1 h2 => ?_
    match us, h1, its, h2 with
    | [_, _, _, _, _], _, [_], _ => exact ⟨_, rfl, rfl⟩
end
end NC
-- NcSetC
set_option Elab.async false
set_option linter.all false
set_option maxRecDepth 100000
set_option maxHeartbeats 4000000
/-! len(set(a tuple of few tuples of texts and whole numbers, pairwise unlike)). -/
namespace NC
open PySem PySem.Spec PyProof.Rows L2
section
variable {P : Program} {w : World} {A : Around} {E : Value → Shared → Prop} {s : Shared}
abbrev TupK (P : Program) (w : World) (h : Heap) (k : List Key) (a : Addr) : Prop := IsTupleKey (mixKind P w) h k a
abbrev hashK (P : Program) (w : World) (k : List Key) : Int := tupleKeyHash (mixKind P w) k
/-- where the search stands behind c steps -/
abbrev step (m : Nat) (h : Int) (c : Nat) : SetTable.Probe := nth m (runAt m (SetTable.bits h % (m + 1)) (SetTable.bits h)) c
theorem step_dummy (m : Nat) (h : Int) (c : Nat) : (step m h c).dummy = none := by
  have key : ∀ (n : Nat) (p : SetTable.Probe), p.dummy = none → (nth m p n).dummy = none := by
    intro n
    induction n with
    | zero => exact fun p h => h
    | succ n ih =>
      intro p h
      refine ih (adv m p) ?_
      unfold adv
      split <;> exact h
  exact key c _ rfl
theorem keys_carried {ks : List Key} {vs : List Value} (h : ItemsAre (mixKind P w) ks vs) : ∀ v ∈ vs, (∃ i t, v = Value.int i t) ∨ ∃ x t, v = Value.str x t := by
  induction h with
  | nil => exact fun v hv => by cases hv
  | @cons k u ks vs h1 _ ih =>
    intro v hv
    rcases List.mem_cons.mp hv with rfl | hv
    · rcases keyIs_shape (k := k) (v := v) h1 with ⟨i, t, _, e⟩ | ⟨x, t, _, e⟩
      · exact .inl ⟨i, t, e⟩
      · exact .inr ⟨x, t, e⟩
    · exact ih v hv
theorem class_small (n : Nat) {v : Value} (h : (∃ i t, v = Value.int i t) ∨ ∃ x t, v = Value.str x t) : ofAClassStatement n v = pure false := by
  rcases h with ⟨i, t, rfl⟩ | ⟨x, t, rfl⟩ <;> cases n <;> rfl
theorem value_small (n : Nat) {v : Value} (h : (∃ i t, v = Value.int i t) ∨ ∃ x t, v = Value.str x t) : ∃ z, hashByValue n v = pure z := by
  rcases h with ⟨i, t, rfl⟩ | ⟨x, t, rfl⟩ <;> cases n <;> exact ⟨_, rfl⟩
theorem class_tupK {k : List Key} {b : Addr} {Q : Bool → Shared → Prop} (hk : TupK P w s.heap k b) (h : Q false s) : wpAny (model P w) A (ofAClassStatement 8 (.ref b)) Q E s := by
  have hT := hk.typeIs
  obtain ⟨o, items, n, ho, _, hd, hi⟩ := hk
  have all := keys_carried hi
  unfold ofAClassStatement
  refine wpAny_bind (wpAny_typeOf hT ?_)
  dsimp only
  have e : (("tuple" : String) == "tuple") = true := by decide
  simp only [e, if_true, Bool.not_true, Bool.false_eq_true, if_false]
  try refine wpAny_bind (wpAny_pure ?_)
  try simp only [Bool.not_true, Bool.false_eq_true, if_false]
  show wpAny _ _ (seqItems? (.ref b) >>= _) _ _ s
  refine wpAny_bind (wpAny_seqItems ho hd ?_)
  dsimp only
  refine wpAny_bind ?_
  show wpAny _ _ (forIn items _ _) _ _ s
  rw [← Array.forIn_toList]
  refine wpAny_forIn_list _ (fun rest r s' => r.1 = none ∧ s' = s ∧ ∀ v ∈ rest, (∃ i t, v = Value.int i t) ∨ ∃ x t, v = Value.str x t) _ ?_ ?_ _ _ ⟨rfl, rfl, all⟩
  · rintro v rest r s' ⟨hr, rfl, hall⟩
    rw [class_small _ (hall v List.mem_cons_self)]
    refine wpAny_bind (wpAny_pure ?_)
    simp only [Bool.false_eq_true, if_false]
    exact wpAny_pure ⟨rfl, rfl, fun u hu => hall u (List.mem_cons_of_mem _ hu)⟩
  · rintro ⟨r1, r2⟩ s' ⟨hr, rfl, _⟩
    simp only at hr
    subst hr
    exact wpAny_pure h
theorem value_tupK {k : List Key} {b : Addr} {Q : Bool → Shared → Prop} (hk : TupK P w s.heap k b) (h : ∀ z, Q z s) : wpAny (model P w) A (hashByValue 8 (.ref b)) Q E s := by
  have hT := hk.typeIs
  obtain ⟨o, items, n, ho, _, hd, hi⟩ := hk
  have all := keys_carried hi
  unfold hashByValue
  refine wpAny_bind (wpAny_specialOf hT F.slot_tuple_hash.lookup ?_)
  show wpAny _ _ (seqItems? (.ref b) >>= _) _ _ s
  refine wpAny_bind (wpAny_seqItems ho hd ?_)
  refine wpAny_bind ?_
  show wpAny _ _ (forIn items _ _) _ _ s
  rw [← Array.forIn_toList]
  refine wpAny_forIn_list _ (fun rest r s' => s' = s ∧ ∀ v ∈ rest, (∃ i t, v = Value.int i t) ∨ ∃ x t, v = Value.str x t) _ ?_ ?_ _ _ ⟨rfl, all⟩
  · rintro v rest r s' ⟨rfl, hall⟩
    obtain ⟨z, ez⟩ := value_small 7 (hall v List.mem_cons_self)
    rw [ez]
    refine wpAny_bind (wpAny_pure ?_)
    cases z
    · simp only [Bool.not_false, if_true]
      first
        | exact wpAny_pure ⟨rfl, fun u hu => (by cases hu)⟩
        | exact wpAny_pure (wpAny_pure (h _))
    · simp only [Bool.not_true, Bool.false_eq_true, if_false]
      exact wpAny_pure ⟨rfl, fun u hu => hall u (List.mem_cons_of_mem _ hu)⟩
  · rintro ⟨r1, r2⟩ s' ⟨rfl, _⟩
    cases r1 with
    | none => exact wpAny_pure (h _)
    | some z => exact wpAny_pure (h _)
theorem seen_tupK {k : List Key} {b : Addr} {Q : Bool → Shared → Prop} (hk : TupK P w s.heap k b) {ys : List Value} (hy : ∀ y ∈ ys, ∃ k' c, y = Value.ref c ∧ TupK P w s.heap k' c) (h : Q false s) :
    wpAny (model P w) A (searchCouldBeSeen (.ref b) ys) Q E s := by
  unfold searchCouldBeSeen
  refine wpAny_bind ?_
  refine wpAny_forIn_list _ (fun rest r s' => r.1 = none ∧ s' = s ∧ ∀ y ∈ rest, ∃ k' c, y = Value.ref c ∧ TupK P w s.heap k' c) _ ?_ ?_ _ _ ⟨rfl, rfl, hy⟩
  · rintro v rest r s' ⟨hr, rfl, hall⟩
    obtain ⟨k', c, rfl, hc⟩ := hall v List.mem_cons_self
    have rest' : ∀ y ∈ rest, ∃ k' c, y = Value.ref c ∧ TupK P w s'.heap k' c := fun u hu => hall u (List.mem_cons_of_mem _ hu)
    dsimp only
    by_cases hv : (b == c || (carriedByValue (.ref b) && carriedByValue (.ref c))) = true
    · exact wp_if_pos hv (wpAny_pure ⟨rfl, rfl, rest'⟩)
    · refine wp_if_neg hv ?_
      refine wpAny_bind (wpAny_eqIsQuiet_tuple hk ?_)
      simp only [Bool.not_true, Bool.false_eq_true, if_false]
      refine wpAny_bind (wpAny_eqIsQuiet_tuple hc ?_)
      simp only [Bool.not_true, Bool.false_eq_true, if_false]
      refine wpAny_bind (class_tupK hk ?_)
      simp only [Bool.false_eq_true, if_false]
      refine wpAny_bind (class_tupK hc ?_)
      simp only [Bool.false_eq_true, if_false]
      exact wpAny_pure ⟨rfl, rfl, rest'⟩
  · rintro ⟨r1, r2⟩ s' ⟨hr, rfl, _⟩
    simp only at hr
    subst hr
    exact wpAny_pure h
/-- a set of few tuples -/
structure FewC (P : Program) (w : World) (h : Heap) (a : Addr) (L : List (Addr × List Key)) (es : Array (Int × Value)) (ep : Nat) (t : SetTable) : Prop where
  ob : ∃ o, h.get? a = some o ∧ o.ExactSet ∧ o.data = .set es ep t
  rows : es.toList = L.map fun p => (hashK P w p.2, Value.ref p.1)
  tab : TabOk t (L.map fun p => hashK P w p.2)
  tup : ∀ p ∈ L, TupK P w h p.2 p.1
  m7 : t.mask = 7
variable {a : Addr} {L : List (Addr × List Key)} {es : Array (Int × Value)} {ep : Nat} {t : SetTable} {h0 : Heap}
theorem FewC.size (R : FewC P w h0 a L es ep t) : es.size = L.length := by
  have h := congrArg List.length R.rows
  rwa [Array.length_toList, List.length_map] at h
theorem FewC.fits (R : FewC P w h0 a L es ep t) (few : L.length ≤ 4) : t.fits es.size = true := by
  have h1 := R.tab.sz
  rw [List.length_map] at h1
  have h2 := R.size
  unfold SetTable.fits SetTable.fill
  rw [R.tab.dm, Bool.and_eq_true, beq_iff_eq, decide_eq_true_eq, R.m7]
  show t.place.size = es.size ∧ t.place.size + 0 ≤ 7
  omega
theorem FewC.entry (R : FewC P w h0 a L es ep t) {i : Nat} {p : Addr × List Key} (h : L[i]? = some p) : es[i]? = some (hashK P w p.2, Value.ref p.1) := by
  rw [← Array.getElem?_toList, R.rows, List.getElem?_map, h] <;> rfl
/-- the search for what is not there -/
theorem search_few (R : FewC P w s.heap a L es ep t) (few : L.length ≤ 4) {x : Addr} {k : List Key} (hx : TupK P w s.heap k x) (new : ∀ p ∈ L, p.2 ≠ k) (hu : A.units < cLine) {n : Nat} (hn : n < 10 * SetTable.turns t.mask)
    (hK : way t.mask (hashK P w k) n ∉ t.place.toList) (hb : ∀ c, c < n → way t.mask (hashK P w k) c ∈ t.place.toList) {Q : SetFound → Shared → Prop} (q : Q (.free (way t.mask (hashK P w k) n) false) s) :
    ∀ (f c : Nat) (stand : Option SetTable.Probe), stand.getD (t.probeStart (hashK P w k)) = step t.mask (hashK P w k) c → c ≤ n → n - c < f → wpAny (model P w) A (setSearchFrom a (.ref x) (hashK P w k) true f stand) Q E s
  | 0, c, stand, _, _, hf => absurd hf (Nat.not_lt_zero _)
  | f + 1, c, stand, hst, hc, hf => by
    obtain ⟨o, ho, hex, hd⟩ := R.ob
    have gw : ¬ t.gaveWay = true := by
      unfold SetTable.gaveWay
      rw [mask_odd R.tab.mok]
      decide
    rw [setSearchFrom_succ]
    refine wpAny_bind (wpAny_setState_of ho hd (R.fits few) ?_)
    dsimp only
    refine wp_if_neg gw ?_
    try refine wpAny_bind (wpAny_pure ?_)
    have e1 : ∀ d, (nth t.mask (step t.mask (hashK P w k) c) d).j = way t.mask (hashK P w k) (c + d) := fun d => congrArg SetTable.Probe.j (nth_add t.mask c _ d).symm
    rcases go_spec t R.tab.ris R.tab.dm (fun i => (es[i]?.map (·.1)).getD 0) (hashK P w k) (10 * SetTable.turns t.mask) (n - c) _ (step_dummy t.mask (hashK P w k) c) (by omega)
      (fun d hd => by rw [e1]; exact hb (c + d) (by omega)) (by rw [e1, show c + (n - c) = n by omega]; exact hK) with ⟨d, i, hd1, hi, hh, _, hpr⟩ | ⟨_, hpr⟩
    · rw [← hst] at hpr
      rw [show t.probe (fun i => (es[i]?.map (·.1)).getD 0) (hashK P w k) (stand.getD (t.probeStart (hashK P w k))) = _ from hpr]
      dsimp only
      rw [hst]
      rw [e1] at hi ⊢
      have hil : i < L.length := by
        have h1 : i < t.place.toList.length := (List.getElem?_eq_some_iff.mp hi).1
        have h2 := R.tab.sz
        rw [List.length_map] at h2
        rwa [Array.length_toList, h2] at h1
      have hp : L[i]? = some L[i] := List.getElem?_eq_getElem hil
      generalize L[i] = p at hp
      have hm : p ∈ L := List.mem_of_getElem? hp
      have hne := new p hm
      have rest : wpAny (model P w) A (searchRest a (.ref x) (hashK P w k) true f es t (way t.mask (hashK P w k) (c + d)) i (nth t.mask (step t.mask (hashK P w k) c) (d + 1))) Q E s := by
        unfold searchRest
        rw [R.entry hp]
        dsimp only
        refine wpAny_bind (wpAny_holding (wpAny_eqBool_tuple hu (R.tup p hm) hx ?_))
        refine wpAny_bind (wpAny_setState_of ho hd (R.fits few) ?_)
        dsimp only
        refine wp_if_neg (by simp [hne]) ?_
        try refine wpAny_bind (wpAny_pure ?_)
        rw [sameMem]
        dsimp only
        have hsl : t.slot (way t.mask (hashK P w k) (c + d)) = .live i := slot_live R.tab.ris hi
        simp only [if_true, hsl, R.entry hp]
        refine wpAny_bind (wpAny_isSame_ref_self (wpAny_bind (wpAny_pure ?_)))
        simp only [if_true]
        refine wp_if_neg (by simp [hne]) ?_
        exact search_few R few hx new hu hn hK hb q f (c + (d + 1)) _ (nth_add t.mask c _ (d + 1)).symm (by omega) (by omega)
      by_cases hl : t.led = true
      · refine wp_if_neg (by simp [hl]) ?_
        try refine wpAny_bind (wpAny_pure ?_)
        exact rest
      · refine wp_if_pos (by simp [hl]) ?_
        refine wpAny_bind (seen_tupK hx (fun y hy => ?_) ?_)
        · obtain ⟨e, he, ee⟩ := List.mem_map.mp hy
          have he1 : e ∈ es ∧ e.1 = hashK P w k := by simpa using he
          have he2 : e ∈ es.toList := by simpa using he1.1
          rw [R.rows] at he2
          obtain ⟨p2, hp2, e2⟩ := List.mem_map.mp he2
          exact ⟨p2.2, p2.1, by rw [← ee, ← e2], R.tup p2 hp2⟩
        · refine wp_if_neg (by decide) ?_
          try refine wpAny_bind (wpAny_pure ?_)
          exact rest
    · rw [e1, show c + (n - c) = n by omega, ← hst] at hpr
      rw [show t.probe (fun i => (es[i]?.map (·.1)).getD 0) (hashK P w k) (stand.getD (t.probeStart (hashK P w k))) = _ from hpr]
      exact wpAny_pure q
theorem tupK_same {h h' : Heap} {k : List Key} {b : Addr} {o : Obj} (hb : TupK P w h k b) (ho : h.get? a = some o) (hd : o.data = .set es ep t) (sb : Heap.SameBut a h h') : TupK P w h' k b := by
  obtain ⟨o', items, n, ho', hc, hd', hi⟩ := hb
  have hne : b ≠ a := by
    rintro rfl
    obtain rfl : o' = o := Option.some.inj (ho'.symm.trans ho)
    rw [hd] at hd'
    exact nomatch hd'
  exact ⟨o', items, n, (sb.2 b hne).trans ho', hc, hd', hi⟩
/-- one more -/
theorem add_few (R : FewC P w s.heap a L es ep t) (few : L.length < 4) {x : Addr} {k : List Key} (hx : TupK P w s.heap k x) (new : ∀ p ∈ L, p.2 ≠ k) (hu : A.units < cLine) {Q : Bool → Shared → Prop}
    (hQ : ∀ h' L' es' ep' t', Heap.SameBut a s.heap h' → FewC P w h' a L' es' ep' t' → L'.Perm ((x, k) :: L) → Q true { s with heap := h' }) : wpAny (model P w) A (setAddHashed a (.ref x) (hashK P w k)) Q E s := by
  obtain ⟨o, ho, hex, hd⟩ := R.ob
  have hsl := R.size
  have lew : L.length ≤ 4 := Nat.le_of_lt few
  obtain ⟨n, hn, hK, hb⟩ := R.tab.first (by rw [List.length_map, R.m7]; omega) (hashK P w k)
  have hbig : n < 100000 := by
    have : 10 * SetTable.turns t.mask ≤ 1420 := by
      rw [R.m7]
      decide
    omega
  unfold setAddHashed
  refine wpAny_holding ?_
  rw [show (100000 : Nat) = 99999 + 1 from rfl, setAddHashedIn_succ]
  refine wpAny_bind (wpAny_setState_of ho hd (R.fits lew) ?_)
  dsimp only
  refine wp_if_neg (by simp [byScan, Value.scannable]) ?_
  try refine wpAny_bind (wpAny_pure ?_)
  refine wpAny_bind ?_
  unfold setSearch
  refine search_few R lew hx new hu hn hK hb ?_ 100000 0 none rfl (Nat.zero_le _) (by omega)
  dsimp only
  refine wpAny_bind (wpAny_setState_of ho hd (R.fits lew) ?_)
  dsimp only
  obtain ⟨q1, q2, q3, q4, _, _, _, _, q9⟩ := R.tab.put hK hb
  have hin : (SetTable.insertAt es (SetTable.below t.place (way t.mask (hashK P w k) n)) (hashK P w k, Value.ref x)).toList = (L.take (SetTable.below t.place (way t.mask (hashK P w k) n)) ++ (x, k) :: L.drop (SetTable.below t.place (way t.mask (hashK P w k) n))).map fun p => (hashK P w p.2, Value.ref p.1) := by
    rw [SetTable.toList_insertAt, R.rows, List.map_append, List.map_cons, List.map_take, List.map_drop]
  generalize hpt : t.put (way t.mask (hashK P w k) n) = pt at q1 q3 q4 q9 ⊢
  obtain ⟨t1, p⟩ := pt
  dsimp only at q1 q3 q4 q9 ⊢
  subst q1
  generalize SetTable.below t.place (way t.mask (hashK P w k) n) = p at q2 q3 hin ⊢
  have pm : (L.take p ++ (x, k) :: L.drop p).Perm ((x, k) :: L) := put_perm L p (x, k)
  have hhs : (L.take p ++ (x, k) :: L.drop p).map (fun p => hashK P w p.2) = (L.map fun p => hashK P w p.2).take p ++ hashK P w k :: (L.map fun p => hashK P w p.2).drop p := by
    rw [List.map_append, List.map_cons, List.map_take, List.map_drop]
  rw [← hhs] at q3
  generalize L.take p ++ (x, k) :: L.drop p = L1 at pm q3 hin
  have hes : (SetTable.insertAt es p (hashK P w k, Value.ref x)).size = L.length + 1 := by
    have h := congrArg List.length hin
    rw [Array.length_toList, List.length_map, pm.length_eq] at h
    exact h
  generalize SetTable.insertAt es p (hashK P w k, Value.ref x) = es1 at hin hes ⊢
  have end_ : ∀ z : Bool, wpAny (model P w) A (do
      storeSet a es1 (if z = true then t1 else { t1 with plain := false })
      if (!false && (if z = true then t1 else { t1 with plain := false }).tooFull) = true then setRelay a (SetTable.grown (es.size + 1))
      return true) Q E s := by
    intro z
    have T2 : TabOk (if z = true then t1 else { t1 with plain := false }) (L1.map fun p => hashK P w p.2) := by
      cases z
      · exact ⟨q3.ris, q3.dm, q3.sz, q3.mok, q3.bd, q3.reach⟩
      · exact q3
    have m2 : (if z = true then t1 else { t1 with plain := false }).mask = 7 := by
      cases z
      · exact q4.trans R.m7
      · exact q4.trans R.m7
    have f2 : (if z = true then t1 else { t1 with plain := false }).fill = L.length + 1 := by
      rw [List.length_map] at q9
      cases z <;> exact q9
    generalize (if z = true then t1 else { t1 with plain := false }) = t2 at T2 m2 f2
    refine wpAny_bind (wpAny_storeSet_of ho hd ?_ (by rw [hes, sizeLine_eq]; omega))
    have sb : Heap.SameBut a s.heap (s.heap.update a (Obj.putSet es1 t2)) := Heap.SameBut.update ..
    have ho1 := store_at (es' := es1) (t' := t2) ho hd
    generalize s.heap.update a (Obj.putSet es1 t2) = h1 at sb ho1 ⊢
    have nf : ¬ t2.tooFull = true := by
      unfold SetTable.tooFull
      rw [decide_eq_true_eq, f2, m2]
      omega
    have fin : Q true { s with heap := h1 } := hQ h1 L1 es1 (ep + 1) t2 sb ⟨⟨_, ho1, ⟨hex.1, hex.2.1, hex.2.2⟩, rfl⟩, hin, T2, fun p hp => by
      rcases List.mem_cons.mp (pm.mem_iff.mp hp) with e | hp
      · rw [e]; exact tupK_same hx ho hd sb
      · exact tupK_same (R.tup p hp) ho hd sb, m2⟩ pm
    first
      | exact wp_if_neg (by simp [nf]) (wpAny_pure fin)
      | (refine wpAny_bind ?_; exact wp_if_neg (by simp [nf]) (wpAny_pure (wpAny_pure fin)))
  by_cases hpl : t1.plain = true
  · first
      | (refine wpAny_bind ?_; refine wp_if_pos hpl ?_; exact value_tupK hx fun z => end_ z)
      | exact wp_if_pos hpl (wpAny_bind (value_tupK hx fun z => end_ z))
  · first
      | (refine wpAny_bind ?_; refine wp_if_neg hpl ?_; exact wpAny_pure (end_ true))
      | exact wp_if_neg hpl (wpAny_bind (wpAny_pure (end_ true)))
/-- the set's own part of it -/
structure FewB (P : Program) (w : World) (h : Heap) (a : Addr) (L : List (Addr × List Key)) : Prop where
  ex : ∃ es ep t, (∃ o, h.get? a = some o ∧ o.ExactSet ∧ o.data = .set es ep t) ∧ es.toList = (L.map fun p => (hashK P w p.2, Value.ref p.1)) ∧ TabOk t (L.map fun p => hashK P w p.2) ∧ t.mask = 7
theorem FewB.full {h : Heap} (B : FewB P w h a L) (tup : ∀ p ∈ L, TupK P w h p.2 p.1) : ∃ es ep t, FewC P w h a L es ep t := by
  obtain ⟨es, ep, t, h1, h2, h3, h4⟩ := B.ex
  exact ⟨es, ep, t, h1, h2, h3, tup, h4⟩
theorem FewC.bare {h : Heap} (R : FewC P w h a L es ep t) : FewB P w h a L := ⟨es, ep, t, R.ob, R.rows, R.tab, R.m7⟩
theorem FewB.keep {h h' : Heap} (B : FewB P w h a L) (k : ∀ o, h.get? a = some o → h'.get? a = some o) : FewB P w h' a L := by
  obtain ⟨es, ep, t, ⟨o, ho, r⟩, h2⟩ := B.ex
  exact ⟨es, ep, t, ⟨o, k o ho, r⟩, h2⟩
theorem FewB.fresh {h : Heap} (ho : h.get? a = some (set0 w)) : FewB P w h a [] :=
  ⟨#[], 0, _, ⟨_, ho, ⟨rfl, rfl, rfl⟩, rfl⟩, rfl, ⟨List.Pairwise.nil, rfl, rfl, .inl rfl, fun x hx => (by cases hx), fun i h j hi => (by simp at hi)⟩, rfl⟩
theorem tupK_keep {h h' : Heap} {k : List Key} {b : Addr} (x : TupK P w h k b) (hk : ∀ c o, h.get? c = some o → h'.get? c = some o) : TupK P w h' k b := by
  obtain ⟨o, items, n, ho, r⟩ := x
  exact ⟨o, items, n, hk b o ho, r⟩
theorem adds_few {ks : List (Addr × List Key)} {us : List Value} (eu : us = ks.map fun p => Value.ref p.1) (tup : ∀ p ∈ ks, TupK P w h0 p.2 p.1) (nd : (ks.map (·.2)).Nodup) (l4 : ks.length ≤ 4) {u0 : Nat} (hu0 : u0 < cLine) :
    Adds P w a h0 us u0 (fun i h => ∃ L, FewB P w h a L ∧ L.Perm (ks.take i)) := by
  rintro i v A E s Q hv hu ⟨L, B, pm⟩ old k
  subst eu
  rw [List.getElem?_map] at hv
  cases e : ks[i]? with
  | none => rw [e] at hv; cases hv
  | some p =>
    rw [e] at hv
    obtain rfl : Value.ref p.1 = v := Option.some.inj hv
    have hi : i < ks.length := (List.getElem?_eq_some_iff.mp e).1
    have tn : ks.take (i + 1) = ks.take i ++ [p] := take_next e
    have sub : ∀ q ∈ L, q ∈ ks := fun q hq => List.mem_of_mem_take (pm.mem_iff.mp hq)
    have hx : TupK P w s.heap p.2 p.1 := tupK_keep (tup p (List.mem_of_getElem? e)) old
    obtain ⟨es, ep, t, R⟩ := B.full fun q hq => tupK_keep (tup q (sub q hq)) old
    have new : ∀ q ∈ L, q.2 ≠ p.2 := fun q hq z => by
      have n1 : ((ks.take (i + 1)).map (·.2)).Nodup := (List.Sublist.map (·.2) (List.take_sublist (i + 1) ks)).nodup nd
      rw [tn, List.map_append] at n1
      exact (List.nodup_append.mp n1).2.2 _ (List.mem_map.mpr ⟨q, pm.mem_iff.mp hq, rfl⟩) _ (List.mem_singleton.mpr rfl) z
    have len : L.length < 4 := by
      have := pm.length_eq
      rw [List.length_take] at this
      omega
    have hl : A.units < cLine := Nat.lt_of_le_of_lt hu hu0
    unfold setAdd
    refine wpAny_holding (wpAny_bind (wpAny_pyHash_tuple hl hx ?_))
    exact add_few (s := { s with toks := s.toks + (p.2.length + 1) }) R len hx new hl fun h' L' es' ep' t' sb R' pm' => k true h' _ sb (Nat.le_add_right _ _) ⟨L', R'.bare, by
      rw [tn]
      exact pm'.trans ((pm.cons p).trans (List.perm_append_singleton p (ks.take i)).symm)⟩
end
end NC
-- NcSubj
set_option Elab.async false
set_option linter.all false
set_option maxRecDepth 100000
set_option maxHeartbeats 4000000
namespace NC
local macro_rules | `(tactic| walk_at "go") => `(tactic| (repeat (first
  | (refine ⟨_, rfl, ?_⟩)
  | (refine ⟨_, _, rfl, rfl, ?_⟩)
  | (refine ⟨_, _, rfl, ?_⟩)
  | (refine ⟨_, _, _, rfl, ?_⟩)
  | (refine Or.inl ⟨_, rfl, ?_⟩)
  | (refine iteT ?_)
  | (refine iteF ?_))))
open PySem PySem.Spec PyProof.Rows L2 PySem.W NdefX
def spIsSubj (K : PySem.W.Frag) : Sp := fun vs H Q _ => ∃ (a : Addr) (g : Subj), vs = [.ref a] ∧ Dp K H (.ref a) (dSubj g) ∧ SubjOk g ∧ ∀ H', Same H H' → Q (.bl true) H'
abbrev NN_is_subject : List Str := ["value", "chains", "chain"]
theorem sc_is_subject : FnScope NN_is_subject ["value"] (defScope s_is_subject) := ⟨rfl, rfl, rfl, by decide +kernel, rfl, by decide +kernel, by decide +kernel⟩
def tLenSetC (K : PySem.W.Frag) (ta : TE) : TE := fun σ H Q => ta σ H fun x H1 => ∃ (l : Addr) (us : List V) (cs : List (List Str)), x = .ref l ∧ SqT K H1 l us ∧ DpAll K H1 us (cs.map dChain) ∧ cs.Nodup ∧ cs.length ≤ 4 ∧ Q (.int (cs.length : Nat)) H1
theorem chains_raw {X : Cx} {pins : List (Addr × Obj)} {σ : L2.St} {H : Hp} {s : Shared} (I : Inv X pins σ H s) : ∀ {cs : List (List Str)} {us : List V} {its : List Value}, DpAll X.K H us (cs.map dChain) → Vals us its →
    ∃ ks : List (Addr × List Key), its = (ks.map fun p => Value.ref p.1) ∧ ks.map (·.2) = cs.map (fun c => c.map Sum.inr) ∧ ∀ p ∈ ks, TupK X.prog X.w s.heap p.2 p.1
  | [], us, its, h, r => by
    cases h
    cases r
    exact ⟨[], rfl, rfl, fun p hp => (by cases hp)⟩
  | c :: cs, us, its, h, r => by
    cases h with
    | cons h1 h2 =>
      obtain ⟨p, rfl, hp⟩ := dp_chain h1
      cases r with
      | cons r1 r2 =>
        cases r1
        obtain ⟨ks, e1, e2, e3⟩ := chains_raw I h2 r2
        refine ⟨(p, c.map Sum.inr) :: ks, by rw [e1] <;> rfl, by rw [List.map_cons, e2] <;> rfl, fun q hq => ?_⟩
        rcases List.mem_cons.mp hq with rfl | hq
        · obtain ⟨its, rv, ⟨o, ho, hc, n, hd⟩, _⟩ := I.tuple hp
          have rv' : Vals ((c.map Sum.inr).map kV) its := by
            rw [List.map_map]
            exact rv
          exact ⟨o, its.toArray, n, ho, hc, hd, by simpa using items_are rv'⟩
        · exact e3 q hq
theorem pe_lenSetC {X : Cx} {a : Expr} {ta : TE} {p p2 q pos : Pos} (hg : Gl X "len") (hm : X.mg "len" = none) (hg2 : Gl X "set") (hm2 : X.mg "set" = none) (hu : X.A.units + 64 < cLine) (ha : PE X a ta) (hc : X.calm = true := by rfl)
    (na : starEach [a] X.env = (false, eval a X.env) :: starEach [] X.env := by rfl) : PE X (.Call (.Name "len" p) [.Call (.Name "set" p2) [a] [] q] [] pos) (tLenSetC X.K ta) := by
  refine ⟨fun pins s σ H Q I h => ?_⟩
  refine Call_ (ld_blt I hg hm PySem.boot_len ?_)
  refine PyProof.Rows.callWith_builtin1 (PyProof.Rows.args_cons ?_ rfl) rfl rfl
  refine Call_ (ld_blt I hg2 hm2 PyProof.Rows.boot_set ?_)
  refine PyProof.Rows.callWith_type1 (PyProof.Rows.args_cons (thn (ha.run pins s σ H _ I h) fun v s1 ⟨x, H1, I1, r1, q1⟩ => PyProof.Rows.args_nil ?_) na) na rfl
  obtain ⟨l, us, cs, rfl, hq, hall, hnd, hl4, q1⟩ := q1
  cases r1
  obtain ⟨its, r, pl, _⟩ := I1.tuple hq
  obtain ⟨ks, ek, el, tup⟩ := chains_raw I1 hall r
  have lk : ks.length = cs.length := by
    have := congrArg List.length el
    rw [List.length_map, List.length_map] at this
    exact this
  have nd : (ks.map (·.2)).Nodup := by
    rw [el]
    exact List.Pairwise.map _ (fun a b ne e => ne (List.map_inj_right (fun _ _ z => Sum.inr.inj z) |>.mp e)) hnd
  have li : its.length = cs.length := by rw [ek, List.length_map, lk]
  refine call_set_of (Z := fun i h => ∃ L, FewB X.prog X.w h s1.heap.objs.size L ∧ L.Perm (ks.take i)) (I1.ok.hd hc) (.inr pl) (fun i h h' ⟨L, B, pm⟩ k => ⟨L, B.keep k, pm⟩) (fun h' e => ⟨[], FewB.fresh e, by simp⟩) (adds_few ek tup nd (by omega) (by omega)) fun h' tk ⟨L, B, pm⟩ old => ?_
  refine PyProof.Rows.args_nil ?_
  have ll : L.length = cs.length := by
    rw [pm.length_eq, List.length_take, li, lk, Nat.min_self]
  obtain ⟨es, ep, t, R⟩ := B.full fun p hp => tupK_keep (tup p (List.mem_of_mem_take (pm.mem_iff.mp hp))) old
  obtain ⟨o, ho, hex, hd⟩ := R.ob
  have hn : es.size = cs.length := R.size.trans ll
  have I2 : Inv X pins σ H1 { s1 with heap := h', toks := tk } := I1.kept old
  refine call_len_set ho hex hd (R.fits (by omega)) (by rw [hn]; omega) ⟨.int cs.length, H1, I2.tok _, ⟨_, by rw [hn]⟩, q1⟩
theorem dp_subj {K : PySem.W.Frag} {H : Hp} {pg : Addr} {k0 : Int} {cs : List (List Str)} (hpg : Dp K H (.ref pg) (dSubj (.some k0 cs))) : ∃ pt2 us, SqT K H pg [.int k0, .ref pt2] ∧ SqT K H pt2 us ∧ DpAll K H us (cs.map dChain) := by
  cases hpg with
  | tup h1 h2 =>
    cases h2 with
    | cons a1 h2 =>
      cases h2 with
      | cons a2 h2 =>
        cases h2
        cases a1
        cases a2 with
        | tup h3 h4 => exact ⟨_, _, h1, h3, h4⟩
section
variable {P : Program} {w : World} {K : PySem.W.Frag} {mg : Str → Option Value} {base : Heap}
theorem cal_is_subject (T : Txt K mg) : Cal P w K mg base 3 "is_subject" (spIsSubj K) := by
  have c_is_chain : Cal P w K mg base 2 "is_chain" (spIsChain K) := cal_is_chain T
  have c_is_integer : Cal P w K mg base 1 "is_integer" (spIsInt K) := cal_is_integer T
  refine cal_of T.f_is_subject T.g_is_subject sc_is_subject (fun vs H Q E h => ?_) (fun _ _ _ _ _ _ us hl => match us, hl with | [_], _ => rfl) (fun cdv A outer s H vs Q E hr h => ?_)
  · obtain ⟨a, g, rfl, _⟩ := h
    rfl
  · obtain ⟨a, g, rfl, ha, ok, k⟩ := h
    have nd := sc_is_subject.nd
    refine ⟨_, 
      (pss_cons (ps_if (pt_val (pe_c c_is_chain hr (by rfl) (pa_cons (pv 0) (pa_cons (pe_gi T.i_MAX_NAMES) pa_nil)))) 
        (pss_one (ps_ret pe_bl)) pss_nil)
      (pss_cons (ps_if (PW.pt (pw_or (pt_not (pt_val (bB call_isi T.n_isinstance (pa_cons (pv 0) (pa_cons (pe_bltn (v := .ty "tuple") (by rfl) T.n_tuple (by decide +kernel) rfl) pa_nil))))) (pw_or (pt_cmpR op_ne (bB call_len T.n_len (pa_cons (pv 0) pa_nil)) pe_int (nomark _)) (pw_or (pt_not (pt_val (pe_c c_is_integer hr (by rfl) (pa_cons (pe_ix ix_tup (pv 0) pe_int (fun _ _ => rfl)) pa_nil)))) (pw_or1 (pt_not (pt_val (bB call_isi T.n_isinstance (pa_cons (pe_ix ix_tup (pv 0) pe_int (fun _ _ => rfl)) (pa_cons (pe_bltn (v := .ty "tuple") (by rfl) T.n_tuple (by decide +kernel) rfl) pa_nil)))))))))) 
        (pss_one (ps_ret pe_bl)) pss_nil)
      (pss_cons (ps_set (i := 1) nd rfl (Or.inl rfl) (pe_ix ix_tup (pv 0) pe_int (fun _ _ => rfl)))
      (pss_cons (ps_if (PW.pt (pw_or (pt_not (pt_chain3 op_le op_le op_le pe_int (pe_ix ix_tup (pv 0) pe_int (fun _ _ => rfl)) (bB call_len T.n_len (pa_cons (pv 1) pa_nil)) (pe_gi T.i_MAX_CHAINS))) (pw_or1 (pt_not (pt_val (bB (cr_all rfl) T.n_all (pa_cons (pe_lc (own := [("chain", 2)]) rfl nd (pi_tup (pv 1)) (blkOk_by (N := NN_is_subject) (sc := defScope s_is_subject) (by decide +kernel)) (fun _ _ _ _ _ => (pg_name (i := 2) nd rfl (Or.inl rfl))) (fun _ _ _ _ _ => pts_nil) (fun _ _ _ _ _ => (pe_c c_is_chain hr (by rfl) (pa_cons (pv 2) (pa_cons (pe_gi T.i_MAX_NAMES) pa_nil))))) pa_nil))))))) 
        (pss_one (ps_ret pe_bl)) pss_nil)
      (pss_one (ps_ret (pe_cmpR op_eq (pe_lenSetC rfl T.n_len rfl T.n_set hr.units (pv 1)) (bB call_len T.n_len (pa_cons (pv 1) pa_nil)) (nomark _)))))))), ?_⟩
    walk_at "go"
    cases g with
    | one c =>
      obtain ⟨pg', eg, q1⟩ := dp_chain ha
      cases eg
      refine .inl ⟨c, q1, ok, fun H1 s1 => ?_⟩
      walk_at "go"
      exact k H1 s1
    | some k0 cs =>
      obtain ⟨pt2, us, e1, q1, hall⟩ := dp_subj ha
      obtain ⟨o1, o2, o3, o4, o5⟩ := ok
      have lus := dpAll_len hall
      refine .inr ⟨k0, pt2, us, e1, q1, fun H1 s1 => ?_⟩
      have e1 := sq_t s1 e1
      have q1 := sq_t s1 q1
      have hall := dpAll_same s1 hall
      walk_at "go"
      refine ⟨_, _, _, _, _, rfl, .ty _, ty_tup e1, kit_tt, ?_⟩
      walk_at "go"
      refine ⟨_, 2, rfl, .inr ⟨_, e1, rfl⟩, ?_⟩
      walk_at "go"
      refine ⟨rfl, ?_⟩
      walk_at "go"
      refine ⟨a, _, _, _, rfl, rfl, e1, rfl, ?_⟩
      walk_at "go"
      refine ⟨a, _, _, _, rfl, rfl, e1, rfl, ?_⟩
      walk_at "go"
      refine ⟨_, _, _, _, _, rfl, .ty _, ty_tup q1, kit_tt, ?_⟩
      walk_at "go"
      refine ⟨a, _, _, _, rfl, rfl, e1, rfl, ?_⟩
      walk_at "go"
      refine ⟨a, _, _, _, rfl, rfl, e1, rfl, ?_⟩
      walk_at "go"
      refine iteK (decide_eq_true o1) ?_
      walk_at "go"
      refine ⟨_, us.length, rfl, .inr ⟨_, q1, rfl⟩, ?_⟩
      walk_at "go"
      refine iteK (decide_eq_true (by omega)) ?_
      walk_at "go"
      refine iteDN (fun c2 => absurd (by omega) c2) (fun c2 => ?_)
      walk_at "go"
      refine ⟨⟨_, q1⟩, fun D nD => ?_⟩
      refine lc_it (walk_tup (xs := us)) (fun i H' => But D H1 H' ∧ H' D = some (.lst ((List.replicate i true).map V.bl))) ⟨upd_but, upd_same⟩ (fun i H' _ ⟨w, _⟩ => sq_t (But.new (Same.refl H1) w nD) q1) ?_ ?_
      · rintro i y _ H2 hi ⟨w1, hD⟩ ⟨rfl, hy⟩
        have s12 : Same H1 H2 := But.new (Same.refl H1) w1 nD
        have hc : cs[i]? = some (cs[i]'(by omega)) := List.getElem?_eq_getElem (by omega)
        have okc := o5 _ (List.getElem_mem (show i < cs.length by omega))
        generalize cs[i]'(by omega) = c at hc okc
        obtain ⟨v, hv, hdv⟩ := dpAll_at (dpAll_same s12 hall) hc
        rw [hy] at hv
        cases hv
        obtain ⟨pc, rfl, hpc⟩ := dp_chain hdv
        refine ⟨rfl, ?_⟩
        walk_at "go"
        refine .inl ⟨c, hpc, okc, fun H3 s3 => ?_⟩
        refine ⟨_, s3 _ _ hD, by rw [List.length_map, List.length_replicate]; exact sz_lt (by omega), (w1.same s3).trans upd_but, ?_⟩
        rw [upd_same, List.replicate_succ', List.map_append]
        rfl
      · rintro H2 ⟨w1, hD⟩
        have s12 : Same H1 H2 := But.new (Same.refl H1) w1 nD
        walk_at "go"
        refine ⟨D, List.replicate us.length true, rfl, sq_of hD, ?_⟩
        rw [all_true]
        walk_at "go"
        refine ⟨pt2, us, cs, rfl, sq_t s12 q1, dpAll_same s12 hall, o4, o3, ?_⟩
        walk_at "go"
        refine ⟨_, us.length, rfl, .inr ⟨_, sq_t s12 q1, rfl⟩, ?_⟩
        rw [lus]
        refine ⟨rfl, ?_⟩
        rw [decide_eq_true rfl]
        exact k _ (s1.trans s12)
end
end NC
-- NcCls3
set_option Elab.async false
set_option linter.all false
set_option maxRecDepth 100000
set_option maxHeartbeats 4000000
namespace NC
local macro_rules | `(tactic| walk_at "go") => `(tactic| (repeat (first
  | (refine ⟨_, rfl, ?_⟩)
  | (refine ⟨_, _, rfl, rfl, ?_⟩)
  | (refine ⟨_, _, rfl, ?_⟩)
  | (refine ⟨_, _, _, rfl, ?_⟩)
  | (refine Or.inl ⟨_, rfl, ?_⟩)
  | (refine iteT ?_)
  | (refine iteF ?_))))
open PySem PySem.Spec PyProof.Rows L2 PySem.W NdefX
def spLevInit (K : PySem.W.Frag) : Sp := fun vs H Q _ => ∃ (x dx pg pt pd : Addr) (vo : V) (who : Str) (g : Subj) (t1 t2 b e : Int) (o : Option Int), vs = [.ref x, .str who, .ref pg, .ref pt, .ref pd, vo] ∧ H x = some (.ins (He.ga K "Leave") dx []) ∧ Dp K H (.ref pg) (dSubj g) ∧ SqT K H pt [.int t1, .int t2] ∧ SqT K H pd [.int b, .int e] ∧ Dp K H vo (dOpt o) ∧ PlainOk (.lev who g t1 t2 b e o) ∧
  ∀ H', But x H H' → H' x = some (.ins (He.ga K "Leave") dx [("own_person", .str who), ("own_days", .ref pd), ("own_subject", .ref pg), ("own_tags", .ref pt), ("own_times", vo)]) → Q .non H'
abbrev NN_Leave_init : List Str := ["self", "person", "subject", "tags", "days", "times", "__class__"]
theorem sc_Leave_init : NScope NN_Leave_init ["self", "person", "subject", "tags", "days", "times"] ["__class__"] (defScope s_Leave_init) := nscope_by (by decide +kernel)
section
variable {P : Program} {w : World} {K : PySem.W.Frag} {mg : Str → Option Value} {base : Heap}
theorem m_Leave_init (T : Txt K mg) (hP : PrgOk P) : MthOk P w K mg base 5 (He.ma K (He.ga K "Leave") "__init__") ["self", "person", "subject", "tags", "days", "times"] (spLevInit K) := by
  have c_is_word : Cal P w K mg base 1 "is_word" (spIsWord K) := cal_is_wordP T
  have c_is_integer : Cal P w K mg base 1 "is_integer" (spIsInt K) := cal_is_integer T
  have c_is_stretch : Cal P w K mg base 3 "is_stretch" (spIsStretch K) := cal_is_stretch T
  have c_is_subject : Cal P w K mg base 3 "is_subject" (spIsSubj K) := cal_is_subject T
  obtain ⟨fd, F⟩ := T.fx 1 (d := x_Leave_init)
  have al := He.ba (T.xf 13 (f := alongB "Statement" "__init__"))
  obtain ⟨cc, cda, D⟩ := sup_of (C := He.ga K "Leave") (g := He.ma K (He.ga K "Statement") "__init__") F rfl (T.xf 4 (f := cellB "Leave" "__init__")) (T.xf 16 (f := fileB "Leave" "__init__")) (mro_of (T.xf 12 (f := mroB "Leave" "Statement"))) (He.eqO_ok al.1) (of_decide_eq_true al.2) (fin_st T) (He.eqO_ok (T.xf 14 (f := fun K => He.eqO (PySem.W.nsIn K cStatics "thirdparty.any") (some none))))
  refine ⟨fd, fn_super (p0 := _) (p1 := _) (p2 := _) (p3 := _) (p4 := _) (e := _) (es := _) (pre := (defBody s_Leave_init).take 5) (post := (defBody s_Leave_init).drop 6) D (by rw [hP.file]; exact beq_self_eq_true _) hP.sup T.n_super sc_Leave_init (show (defScope s_Leave_init).names.lookup ("super" : Str) = some .globalImplicit by decide +kernel) rfl rfl (fun vs H Q E h => ?_) (m_Statement_init T).fnR (by decide) rfl (fun A outer s H vs Q E hr h => ?_) (fun A outer s H E => ⟨⟨_, rfl⟩, rfl, rfl, rfl, rfl⟩), ?_⟩
  · obtain ⟨x, dx, pg, pt, pd, vo, who, g, t1, t2, b, e, o, rfl, _⟩ := h
    rfl
  · obtain ⟨x, dx, pg, pt, pd, vo, who, g, t1, t2, b, e, o, rfl, hx, hpg, hpt, hpd, hvo, ok, k⟩ := h
    obtain ⟨o1, o2, o3, o4, o5⟩ := ok
    have nd := sc_Leave_init.nd
    refine ⟨_, _, _, 
      (pss_cons (ps_if (pt_not (pt_val (pe_c c_is_word hr (by rfl) (pa_cons (pv 1) pa_nil)))) 
        (pss_one ps_never) pss_nil)
      (pss_cons (ps_if (pt_not (pt_val (pe_c c_is_subject hr (by rfl) (pa_cons (pv 2) pa_nil)))) 
        (pss_one ps_never) pss_nil)
      (pss_cons (ps_if (pt_not (pt_val (pe_c c_is_stretch hr (by rfl) (pa_cons (pv 3) pa_nil)))) 
        (pss_one ps_never) pss_nil)
      (pss_cons (ps_if (PW.pt (pw_and (pt_cmpR op_notN (pv 4) pe_non (nomark _)) (pw_and1 (pt_not (pt_val (pe_c c_is_stretch hr (by rfl) (pa_cons (pv 4) pa_nil))))))) 
        (pss_one ps_never) pss_nil)
      (pss_one (ps_if (PW.pt (pw_and (pt_cmpR op_notN (pv 5) pe_non (nomark _)) (pw_and1 (pt_not (PW.pt (pw_and (pt_val (pe_c c_is_integer hr (by rfl) (pa_cons (pv 5) pa_nil))) (pw_and1 (pt_chain op_le op_le pe_int (pv 5) (pe_gi T.i_MAX_TIMES))))))))) 
        (pss_one ps_never) pss_nil)))))), (pa_cons (pv 1) (pa_cons (pv 4) pa_nil)), 
      (pss_cons (ps_fld (pv 0) (pv 2) rfl)
      (pss_cons (ps_fld (pv 0) (pv 3) rfl)
      (pss_one (ps_fld (pv 0) (pv 5) rfl)))), ?_⟩
    have ne : ¬ (V.ref pd = V.non) := fun z => nomatch z
    walk_at "go"
    refine ⟨o1, fun H1 s1 => ?_⟩
    walk_at "go"
    refine ⟨pg, g, rfl, dp_same s1 _ _ hpg, o2, fun H2 s2 => ?_⟩
    walk_at "go"
    have s02 := s1.trans s2
    refine ⟨pt, t1, t2, rfl, sq_t s02 hpt, o3, ?_⟩
    walk_at "go"
    refine ⟨rfl, ?_⟩
    refine ⟨_, rfl, iteK (by rw [decide_eq_false ne]; rfl) ?_⟩
    walk_at "go"
    refine ⟨pd, b, e, rfl, sq_t s02 hpd, o4, ?_⟩
    walk_at "go"
    refine ⟨rfl, ?_⟩
    have hx2 := s02 _ _ hx
    cases o with
    | none =>
      cases hvo
      refine ⟨_, rfl, iteN (by rw [decide_eq_true rfl]; rfl) ?_⟩
      refine iteN rfl ?_
      walk_at "go"
      refine ⟨x, dx, [], rfl, hx2, ?_⟩
      walk_at "go"
      refine ⟨x, He.ga K "Leave", dx, pd, who, b, e, rfl, hx2, T.c_Leave, T.a_Leave_own_person, T.a_Leave_own_days, sq_t s02 hpd, o4, fun H4 w4 h4 => ?_⟩
      walk_at "go"
      refine ⟨x, _, dx, _, rfl, h4, T.c_Leave, T.a_Leave_own_subject, by show 2 < 1000; decide, kPut fun H5 w5 h5 => ?_⟩
      walk_at "go"
      refine ⟨x, _, dx, _, rfl, h5, T.c_Leave, T.a_Leave_own_tags, by show 3 < 1000; decide, kPut fun H6 w6 h6 => ?_⟩
      walk_at "go"
      refine ⟨x, _, dx, _, rfl, h6, T.c_Leave, T.a_Leave_own_times, by show 4 < 1000; decide, kPut fun H7 w7 h7 => ?_⟩
      exact k H7 (Same.but s02 (w4.trans (w5.trans (w6.trans w7)))) h7
    | some i =>
      obtain ⟨h0, h9⟩ : 0 ≤ i ∧ i ≤ 9 := by
        rcases o5 with o5 | ⟨j, o5, h⟩
        · cases o5
        · cases o5
          exact h
      cases hvo
      have nei : ¬ (V.int i = V.non) := fun z => nomatch z
      refine ⟨_, rfl, iteK (by rw [decide_eq_false nei]; rfl) ?_⟩
      walk_at "go"
      refine iteD (fun c1 => ?_) (fun c1 => absurd h0 c1)
      walk_at "go"
      refine iteDN (fun c2 => absurd h9 c2) (fun c2 => ?_)
      walk_at "go"
      refine ⟨x, dx, [], rfl, hx2, ?_⟩
      walk_at "go"
      refine ⟨x, He.ga K "Leave", dx, pd, who, b, e, rfl, hx2, T.c_Leave, T.a_Leave_own_person, T.a_Leave_own_days, sq_t s02 hpd, o4, fun H4 w4 h4 => ?_⟩
      walk_at "go"
      refine ⟨x, _, dx, _, rfl, h4, T.c_Leave, T.a_Leave_own_subject, by show 2 < 1000; decide, kPut fun H5 w5 h5 => ?_⟩
      walk_at "go"
      refine ⟨x, _, dx, _, rfl, h5, T.c_Leave, T.a_Leave_own_tags, by show 3 < 1000; decide, kPut fun H6 w6 h6 => ?_⟩
      walk_at "go"
      refine ⟨x, _, dx, _, rfl, h6, T.c_Leave, T.a_Leave_own_times, by show 4 < 1000; decide, kPut fun H7 w7 h7 => ?_⟩
      exact k H7 (Same.but s02 (w4.trans (w5.trans (w6.trans w7)))) h7
  · obtain ⟨oc, od, dV, kV, doc, pm, an, cdv, ct, osl, clo, rfl, hc1, lk, hcode⟩ := F.ex
    have z := dfl_of (T.xf 18 (f := dfB "Leave" "__init__" [.non, .non])) lk
    refine binds_dfl z (List.cons_ne_nil _ _) fun T us its h1 h2 => ?_
    match us, h1, its, h2 with
    | [_, _, _, _, _, _], _, [_, _], _ => exact ⟨_, rfl, rfl⟩
end
end NC
-- NcBook
set_option Elab.async false
set_option linter.all false
set_option maxRecDepth 100000
set_option maxHeartbeats 4000000
namespace NC
local macro_rules | `(tactic| walk_at "go") => `(tactic| (repeat (first
  | (refine ⟨_, rfl, ?_⟩)
  | (refine ⟨_, _, rfl, rfl, ?_⟩)
  | (refine ⟨_, _, rfl, ?_⟩)
  | (refine ⟨_, _, _, rfl, ?_⟩)
  | (refine Or.inl ⟨_, rfl, ?_⟩)
  | (refine iteT ?_)
  | (refine iteF ?_))))
open PySem PySem.Spec PyProof.Rows L2 PySem.W NdefX
def Stms (K : PySem.W.Frag) (H : Hp) (us : List V) (xs : List Plain) : Prop := us.length = xs.length ∧ ∀ (i : Nat) (v : V), us[i]? = some v → ∃ p, xs[i]? = some p ∧ Stm K H v p
theorem Stms.same {K : PySem.W.Frag} {H H' : Hp} {us : List V} {xs : List Plain} (s : Same H H') (h : Stms K H us xs) : Stms K H' us xs := ⟨h.1, fun i v e => by obtain ⟨p, h1, h2⟩ := h.2 i v e; exact ⟨p, h1, h2.same s⟩⟩
theorem Stms.app {K : PySem.W.Frag} {H : Hp} {us vs : List V} {xs ys : List Plain} (h : Stms K H us xs) (k : Stms K H vs ys) : Stms K H (us ++ vs) (xs ++ ys) := by
  refine ⟨by rw [List.length_append, List.length_append, h.1, k.1], fun i v e => ?_⟩
  by_cases hi : i < us.length
  · rw [List.getElem?_append_left hi] at e
    obtain ⟨p, h1, h2⟩ := h.2 i v e
    exact ⟨p, by rw [List.getElem?_append_left (by rw [← h.1]; exact hi)]; exact h1, h2⟩
  · rw [List.getElem?_append_right (by omega)] at e
    obtain ⟨p, h1, h2⟩ := k.2 _ v e
    exact ⟨p, by rw [List.getElem?_append_right (by rw [← h.1]; omega), ← h.1]; exact h1, h2⟩
theorem Stms.nil {K : PySem.W.Frag} {H : Hp} : Stms K H [] [] := ⟨rfl, fun i v e => by simp at e⟩
section
variable {K : PySem.W.Frag} {mg : Str → Option Value}
theorem ins_ty {C : Str} {H : Hp} {a dx : Addr} {fs : List (Str × V)} (h : insB C K = true) (cl : Cls K (He.ga K C)) (e : H a = some (.ins (He.ga K C) dx fs)) : TyX K H (.ref a) (.ref (He.ga K C)) := by
  obtain ⟨h1, h⟩ := He.ba h
  obtain ⟨h2, h⟩ := He.ba h
  obtain ⟨h3, h4⟩ := He.ba h
  exact .base (.ins e cl (He.eqO_ok h1) (He.eqO_ok h2) (of_decide_eq_true h3) (of_decide_eq_true h4))
/-- the class of a statement -/
def stC (K : PySem.W.Frag) : Plain → Addr
  | .nam .. => He.ga K "Naming"
  | .lev .. => He.ga K "Leave"
theorem stm_ref {H : Hp} {v : V} {p : Plain} (h : Stm K H v p) : ∃ a, v = .ref a := by
  cases p with
  | nam who word c b e => obtain ⟨a, _, _, _, e, _⟩ := h; exact ⟨a, e⟩
  | lev who g t1 t2 b e o => obtain ⟨a, _, _, _, _, _, e, _⟩ := h; exact ⟨a, e⟩
theorem stm_ty (T : Txt K mg) {H : Hp} {v : V} {p : Plain} (h : Stm K H v p) : TyX K H v (.ref (stC K p)) := by
  cases p with
  | nam who word c b e => obtain ⟨a, _, _, _, rfl, e, _⟩ := h; exact ins_ty (T.xf 5 (f := insB "Naming")) T.c_Naming e
  | lev who g t1 t2 b e o => obtain ⟨a, _, _, _, _, _, rfl, e, _⟩ := h; exact ins_ty (T.xf 6 (f := insB "Leave")) T.c_Leave e
theorem kit_nn (T : Txt K mg) : PySem.W.kitOne K (.ref (He.ga K "Naming")) (.ref (He.ga K "Naming")) = some true := of_decide_eq_true (T.xf 7 (f := isB "Naming" "Naming" true))
theorem kit_ln (T : Txt K mg) : PySem.W.kitOne K (.ref (He.ga K "Leave")) (.ref (He.ga K "Naming")) = some false := of_decide_eq_true (T.xf 9 (f := isB "Leave" "Naming" false))
theorem kit_ll (T : Txt K mg) : PySem.W.kitOne K (.ref (He.ga K "Leave")) (.ref (He.ga K "Leave")) = some true := of_decide_eq_true (T.xf 10 (f := isB "Leave" "Leave" true))
theorem kit_st (T : Txt K mg) (p : Plain) : PySem.W.kitAny K (.ref (stC K p)) [.ref (He.ga K "Naming"), .ref (He.ga K "Leave")] = some true := by
  cases p with
  | nam who word c b e =>
    show PySem.W.kitAny K (.ref (He.ga K "Naming")) [.ref (He.ga K "Naming"), .ref (He.ga K "Leave")] = some true
    unfold PySem.W.kitAny
    rw [kit_nn T]
  | lev who g t1 t2 b e o =>
    show PySem.W.kitAny K (.ref (He.ga K "Leave")) [.ref (He.ga K "Naming"), .ref (He.ga K "Leave")] = some true
    unfold PySem.W.kitAny
    rw [kit_ln T]
    unfold PySem.W.kitAny
    rw [kit_ll T]
end
def spNeedSt (K : PySem.W.Frag) : Sp := fun vs H Q _ => ∃ (t : Addr) (us : List V) (xs : List Plain), vs = [.ref t] ∧ SqT K H t us ∧ Stms K H us xs ∧ ∀ H', Same H H' → Q .non H'
def spNeedUn (K : PySem.W.Frag) : Sp := fun vs H Q _ => ∃ (t o : Addr) (us ws : List V) (xs ys : List Plain), vs = [.ref t, .ref o] ∧ SqT K H t us ∧ Stms K H us xs ∧ SqT K H o ws ∧ Stms K H ws ys ∧ (ys ++ xs).Nodup ∧ ys.length ≤ 24 ∧ xs.length ≤ 24 ∧ ∀ H', Same H H' → Q .non H'
abbrev NN_need_statements : List Str := ["values", "place", "value"]
theorem sc_need_statements : FnScope NN_need_statements ["values"] (defScope s_need_statements) := ⟨rfl, rfl, rfl, by decide +kernel, rfl, by decide +kernel, by decide +kernel⟩
abbrev NN_need_unlike : List Str := ["statements", "others", "facts", "other", "place", "statement"]
theorem sc_need_unlike : FnScope NN_need_unlike ["statements", "others"] (defScope s_need_unlike) := ⟨rfl, rfl, rfl, by decide +kernel, rfl, by decide +kernel, by decide +kernel⟩
section
variable {P : Program} {w : World} {K : PySem.W.Frag} {mg : Str → Option Value} {base : Heap}
-- 0 values; 1 place; 2 value
theorem cal_need_statements (T : Txt K mg) : Cal P w K mg base 1 "need_statements" (spNeedSt K) := by
  refine cal_of T.f_need_statements T.g_need_statements sc_need_statements (fun vs H Q E h => ?_) (fun _ _ _ _ _ _ us hl => match us, hl with | [_], _ => rfl) (fun cdv A outer s H vs Q E hr h => ?_)
  · obtain ⟨t, us, xs, rfl, _⟩ := h
    rfl
  · obtain ⟨t, us, xs, rfl, ht, hs, k⟩ := h
    have nd := sc_need_statements.nd
    refine ⟨_, 
      (pss_one (ps_for PassesOwn.never rfl (pi_enumT (by rfl) T.n_enumerate (pa_cons (pv 0) pa_nil)) (pg_tup rfl (pgs_cons (pg_name (i := 1) nd rfl (Or.inl rfl)) (pgs_cons (pg_name (i := 2) nd rfl (Or.inl rfl)) pgs_nil))) 
        (pss_one (ps_if (pt_not (pt_val (bB call_isiT T.n_isinstance (pa_cons (pv 2) (pa_cons (pe_tup (pa_cons (pe_glob (v := .ref (He.ga K "Naming")) (by rfl) T.g_Naming rfl) (pa_cons (pe_glob (v := .ref (He.ga K "Leave")) (by rfl) T.g_Leave rfl) pa_nil))) pa_nil))))) 
          (pss_one ps_never) pss_nil)))), ?_⟩
    walk_at "go"
    refine ⟨t, us, rfl, ht, for_enumT (fun i σ H' => ∃ (o1 o2 : Option V), σ = [some (.ref t), o1, o2] ∧ Same H H') ⟨_, _, rfl, Same.refl H⟩ (fun i σ H' ⟨_, _, _, s⟩ => sq_t s ht) ?_ ?_⟩
    · rintro i x T' σ H1 H2 hx ⟨o1, o2, rfl, s1⟩ s2 nT hT
      have s02 := s1.trans s2
      obtain ⟨p, hp, hst⟩ := (hs.same s02).2 i x hx
      refine ⟨T', _, rfl, st_of hT, rfl, ?_⟩
      refine ⟨_, _, rfl, ?_⟩
      refine ⟨_, _, rfl, ?_⟩
      refine ⟨rfl, ?_⟩
      walk_at "go"
      refine ⟨by show 2 ≤ sizeLine; decide, fun tp ntp => kNew ntp fun H3 s3 htp => ?_⟩
      refine ⟨x, tp, _, _, _, _, rfl, htp, .cons (.own _) (.cons (.own _) .nil), stm_ty T (hst.same s3), kit_st T p, ?_⟩
      walk_at "go"
      exact s02.trans s3
    · rintro σ H1 ⟨o1, o2, rfl, s1⟩
      exact k H1 s1
theorem yesT {σ : L2.St} {H : Hp} {k : Bool → Hp → Prop} (h : k true H) : tYes σ H k := h
theorem either_facts {σ : L2.St} {H1 : Hp} {v : V} {p : Plain} {Q : VK} {i : Nat} (hv : σ[i]? = some (some v)) (h : Stm K H1 v p) (kk : ∀ q H', Same H1 H' → H1 q = none → Hd K H' (.ref q) (Fact.mk p) → Q (.ref q) H') :
    tEither (tMeth (He.ga K "Naming") "facts" (spFactsN K) [] E0 (tVar i) tNil) (tMeth (He.ga K "Leave") "facts" (spFactsL K) [] E0 (tVar i) tNil) σ H1 Q := by
  cases p with
  | nam who word c b e =>
    have h0 := h
    obtain ⟨a, dx, pc, pd, rfl, ha, _⟩ := h
    exact .inl ⟨_, hv, a, dx, _, rfl, ha, rfl, _, who, word, c, b, e, rfl, h0, kk⟩
  | lev who g t1 t2 b e o =>
    have h0 := h
    obtain ⟨a, dx, pg, pt, pd, vo, rfl, ha, _⟩ := h
    exact .inr ⟨_, hv, a, dx, _, rfl, ha, rfl, _, who, g, t1, t2, b, e, o, rfl, h0, kk⟩
-- 0 statements; 1 others; 2 facts; 3 other; 4 place; 5 statement
theorem cal_need_unlike (T : Txt K mg) : Cal P w K mg base 2 "need_unlike" (spNeedUn K) := by
  refine cal_of T.f_need_unlike T.g_need_unlike sc_need_unlike (fun vs H Q E h => ?_) (fun _ _ _ _ _ _ us hl => match us, hl with | [_, _], _ => rfl) (fun cdv A outer s H vs Q E hr h => ?_)
  · obtain ⟨t, o, us, ws, xs, ys, rfl, _⟩ := h
    rfl
  · obtain ⟨t, o, us, ws, xs, ys, rfl, ht, hs, ho, ho2, ndy, ly, lx, k⟩ := h
    have nd := sc_need_unlike.nd
    refine ⟨_, 
      (pss_cons (ps_setLc (i := 2) (own := [("other", 3)]) rfl nd rfl rfl (sw_true rfl rfl rfl (by decide +kernel)) (pi_tup (pv 1)) (blkOk_by (N := NN_need_unlike) (sc := defScope s_need_unlike) (by decide +kernel)) (fun _ _ _ _ _ => (pg_name (i := 3) nd rfl (Or.inl rfl))) (fun _ _ _ _ _ => pts_nil) (fun _ _ _ _ _ => (pe_either (pe_mt0 (m_Naming_facts T) hr T.c_Naming T.m_Naming_facts (pv 3) (by decide)) (pe_mt0 (m_Leave_facts T) hr T.c_Leave T.m_Leave_facts (pv 3) (by decide)))))
      (pss_one (ps_for PassesOwn.never rfl (pi_enumT (by rfl) T.n_enumerate (pa_cons (pv 0) pa_nil)) (pg_tup rfl (pgs_cons (pg_name (i := 4) nd rfl (Or.inl rfl)) (pgs_cons (pg_name (i := 5) nd rfl (Or.inl rfl)) pgs_nil))) 
        (pss_cons (ps_if (pt_cmpR (op_inT (α := Fact) hr.units) (pe_either (pe_mt0 (m_Naming_facts T) hr T.c_Naming T.m_Naming_facts (pv 5) (by decide)) (pe_mt0 (m_Leave_facts T) hr T.c_Leave T.m_Leave_facts (pv 5) (by decide))) (pv 2) (by rfl)) 
          (pss_one ps_never) pss_nil)
        (pss_one (ps_expr (pe_bm PySem.F.plainAttrs_list PySem.F.slot_list_append PySem.F.type_list_append mt_append (pv 2) (pa_cons (pe_either (pe_mt0 (m_Naming_facts T) hr T.c_Naming T.m_Naming_facts (pv 5) (by decide)) (pe_mt0 (m_Leave_facts T) hr T.c_Leave T.m_Leave_facts (pv 5) (by decide))) pa_nil)))))))), ?_⟩
    walk_at "go"
    refine ⟨⟨_, ho⟩, fun D nD => ?_⟩
    refine lc_it (walk_tup (xs := ws)) (fun i H' => But D H H' ∧ ∃ vs, H' D = some (.lst vs) ∧ HdAll K H' vs ((ys.take i).map Fact.mk)) ⟨upd_but, [], upd_same, hdAll_nil⟩ (fun i H' _ ⟨w, _⟩ => sq_t (But.new (Same.refl H) w nD) ho) ?_ ?_
    · rintro i y _ H1 hi ⟨w1, vs, hD, hvs⟩ ⟨rfl, hy⟩
      have s01 : Same H H1 := But.new (Same.refl H) w1 nD
      obtain ⟨p, hp, hst⟩ := (ho2.same s01).2 i y hy
      have lvs := hdAll_len hvs
      refine ⟨rfl, ?_⟩
      refine yesT ((if_pos rfl).mpr ?_)
      refine either_facts rfl hst fun q H2 s2 nq hq => ?_
      refine ⟨vs, s2 _ _ hD, sz_lt (by rw [lvs, List.length_map, List.length_take]; omega), (w1.same s2).trans upd_but, vs ++ [.ref q], upd_same, ?_⟩
      rw [List.take_add_one, hp, Option.toList_some, List.map_append]
      exact hdAll_app ((hvs.same s2).butF upd_but (s2 _ _ hD)) (hdAll_cons (hq.butF upd_but (s2 _ _ hD)) hdAll_nil)
    · rintro H1 ⟨w1, vs, hD, hvs⟩
      have s01 : Same H H1 := But.new (Same.refl H) w1 nD
      rw [ho2.1, List.take_length] at hvs
      walk_at "go"
      refine ⟨t, us, rfl, sq_t s01 ht, for_enumT (fun i σ H' => ∃ (vs : List V) (o3 o4 o5 : Option V), σ = [some (.ref t), some (.ref o), some (.ref D), o3, o4, o5] ∧ But D H1 H' ∧ H' D = some (.lst vs) ∧ HdAll K H' vs ((ys ++ xs.take i).map Fact.mk))
        ⟨vs, _, _, _, rfl, But.refl _ _, hD, by rw [List.take_zero, List.append_nil]; exact hvs⟩ (fun i σ H' ⟨_, _, _, _, _, w, _⟩ => sq_t (But.new s01 w nD) ht) ?_ ?_⟩
      · rintro i x T' σ H2 H3 hx ⟨vs, o3, o4, o5, rfl, w2, hD2, hvs2⟩ s3 nT hT
        have s03 : Same H H3 := (But.new s01 w2 nD).trans s3
        obtain ⟨p, hp, hst⟩ := (hs.same s03).2 i x hx
        have lvs := hdAll_len hvs2
        have hD3 := s3 _ _ hD2
        have hvs3 := hvs2.same s3
        refine ⟨T', _, rfl, st_of hT, rfl, ?_⟩
        refine ⟨_, _, rfl, ?_⟩
        refine ⟨_, _, rfl, ?_⟩
        refine ⟨rfl, ?_⟩
        refine either_facts rfl hst fun q H4 s4 nq hq => ?_
        walk_at "go"
        refine ⟨D, vs, Fact.mk p, _, rfl, .inl (sq_of (s4 _ _ hD3)), hvs3.same s4, hq, ?_⟩
        have out : Fact.mk p ∉ (ys ++ xs.take i).map Fact.mk := fun h => by
          obtain ⟨p', h1, h2⟩ := List.mem_map.mp h
          cases h2
          have e2 : ys ++ xs = (ys ++ xs.take i) ++ xs.drop i := by rw [List.append_assoc, List.take_append_drop]
          rw [e2] at ndy
          have h3 : p ∈ xs.drop i := List.mem_of_getElem? (show (xs.drop i)[0]? = some p by rw [List.getElem?_drop]; exact hp)
          exact (List.nodup_append.mp ndy).2.2 _ h1 _ h3 rfl
        walk_at "go"
        refine iteN (decide_eq_false out) ?_
        walk_at "go"
        refine ⟨.inl ⟨rfl, _, sq_of (s4 _ _ hD3)⟩, ?_⟩
        refine either_facts rfl (hst.same s4) fun q2 H5 s5 nq2 hq2 => ?_
        have s35 := s4.trans s5
        walk_at "go"
        refine ⟨D, vs, _, rfl, rfl, s35 _ _ hD3, sz_lt (by rw [lvs, List.length_map, List.length_append, List.length_take]; omega), kPut fun H6 w6 h6 => ?_⟩
        refine ⟨_, _, _, _, rfl, (w2.same (s3.trans s35)).trans w6, h6, ?_⟩
        rw [List.take_add_one, hp, Option.toList_some, ← List.append_assoc, List.map_append]
        exact hdAll_app ((hvs3.same s35).butF w6 (s35 _ _ hD3)) (hdAll_cons (hq2.butF w6 (s35 _ _ hD3)) hdAll_nil)
      · rintro σ H2 ⟨vs, o3, o4, o5, rfl, w2, hD2, hvs2⟩
        exact k H2 (But.new s01 w2 nD)
end
end NC
-- NcBook2
set_option Elab.async false
set_option linter.all false
set_option maxRecDepth 100000
set_option maxHeartbeats 4000000
namespace NC
local macro_rules | `(tactic| walk_at "go") => `(tactic| (repeat (first
  | (refine ⟨_, rfl, ?_⟩)
  | (refine ⟨_, _, rfl, rfl, ?_⟩)
  | (refine ⟨_, _, rfl, ?_⟩)
  | (refine ⟨_, _, _, rfl, ?_⟩)
  | (refine Or.inl ⟨_, rfl, ?_⟩)
  | (refine iteT ?_)
  | (refine iteF ?_))))
open PySem PySem.Spec PyProof.Rows L2 PySem.W NdefX
def spWordsOf (K : PySem.W.Frag) : Sp := fun vs H Q _ => ∃ (v : V) (p : Plain), vs = [v] ∧ Stm K H v p ∧ PlainOk p ∧ ∀ (q l1 l2 : Addr) (zs ws : List Str) H', Same H H' → SqT K H' q [.ref l1, .ref l2] → H' l1 = some (.lst (zs.map V.str)) → H' l2 = some (.lst (ws.map V.str)) → H l2 = none → zs.length ≤ 5 → ws.length ≤ 20 → Q (.ref q) H'
abbrev NN_words_of : List Str := ["statement", "chains", "names", "chain"]
theorem sc_words_of : FnScope NN_words_of ["statement"] (defScope s_words_of) := ⟨rfl, rfl, rfl, by decide +kernel, rfl, by decide +kernel, by decide +kernel⟩
theorem stm_person {K : PySem.W.Frag} {mg : Str → Option Value} (T : Txt K mg) {H : Hp} {v : V} {p : Plain} (h : Stm K H v p) : ∃ a C dx fs who, v = .ref a ∧ H a = some (.ins C dx fs) ∧ Cls K C ∧ NoAttr K C "own_person" ∧ fs.lookup ("own_person" : Str) = some (.str who) := by
  cases p with
  | nam who word c b e =>
    obtain ⟨a, dx, pc, pd, rfl, ha, _⟩ := h
    exact ⟨a, _, dx, _, who, rfl, ha, T.c_Naming, T.a_Naming_own_person, rfl⟩
  | lev who g t1 t2 b e o =>
    obtain ⟨a, dx, pg, pt, pd, vo, rfl, ha, _⟩ := h
    exact ⟨a, _, dx, _, who, rfl, ha, T.c_Leave, T.a_Leave_own_person, rfl⟩
section
variable {P : Program} {w : World} {K : PySem.W.Frag} {mg : Str → Option Value} {base : Heap}
-- 0 statement; 1 chains; 2 names; 3 chain
theorem cal_words_of (T : Txt K mg) : Cal P w K mg base 2 "words_of" (spWordsOf K) := by
  refine cal_of T.f_words_of T.g_words_of sc_words_of (fun vs H Q E h => ?_) (fun _ _ _ _ _ _ us hl => match us, hl with | [_], _ => rfl) (fun cdv A outer s H vs Q E hr h => ?_)
  · obtain ⟨v, p, rfl, _⟩ := h
    rfl
  · obtain ⟨v, p, rfl, hst, ok, k⟩ := h
    have nd := sc_words_of.nd
    refine ⟨_, 
      (pss_cut (ps_if (pt_val (bB call_isi T.n_isinstance (pa_cons (pv 0) (pa_cons (pe_glob (v := .ref (He.ga K "Naming")) (by rfl) T.g_Naming rfl) pa_nil)))) 
        (pss_one (ps_par (i := 1) (j := 2) rfl nd rfl rfl (by decide) rfl rfl (pa_cons (pe_lst (pa_cons (pe_fld (pv 0) rfl) pa_nil)) (pa_cons (pe_lst (pa_cons (pe_fld (pv 0) rfl) pa_nil)) pa_nil)) (by rfl))) 
        (pss_one (ps_par (i := 1) (j := 2) rfl nd rfl rfl (by decide) rfl rfl (pa_cons (bT call_list_of T.n_list (pa_cons (pe_ix ix_tup (pe_mt0 (m_Leave_needed T) hr T.c_Leave T.m_Leave_needed (pv 0) (by decide)) pe_int (fun _ _ => rfl)) pa_nil)) (pa_cons (pe_lst pa_nil) pa_nil)) (by rfl))))
      (pss_cons (ps_for PassesOwn.never rfl (pi_list (pv 1)) (pg_name (i := 3) nd rfl (Or.inl rfl)) 
        (pss_one (ps_expr (pe_bm PySem.F.plainAttrs_list PySem.F.slot_list_extend PySem.F.type_list_extend mt_extT (pv 2) (pa_cons (pe_slice sl_tupA (pv 3) (po_some pe_int) po_none) pa_nil)))))
      (pss_one (ps_ret (pe_tup (pa_cons (pe_op op_cat (pe_lst (pa_cons (pe_fld (pv 0) rfl) pa_nil)) (pe_lc (own := [("chain", 3)]) rfl nd (pi_list (pv 1)) (blkOk_by (N := NN_words_of) (sc := defScope s_words_of) (by decide +kernel)) (fun _ _ _ _ _ => (pg_name (i := 3) nd rfl (Or.inl rfl))) (fun _ _ _ _ _ => pts_nil) (fun _ _ _ _ _ => (pe_ix (show IxR _ (rIxT K) from ix_tup) (pv 3) pe_int (fun _ _ => rfl))))) (pa_cons (pv 2) pa_nil))))))), ?_⟩
    refine ⟨fun σ H' => ∃ (a1 l2 : Addr) (us : List V) (cs : List (List Str)) (ws : List Str) (o3 : Option V), σ = [some v, some (.ref a1), some (.ref l2), o3] ∧ Same H H' ∧ H' a1 = some (.lst us) ∧ H' l2 = some (.lst (ws.map V.str)) ∧ DpAll K H' us (cs.map dChain) ∧ a1 ≠ l2 ∧ H l2 = none ∧ cs.length ≤ 4 ∧ (∀ c ∈ cs, ChainOk 4 c) ∧ ws.length ≤ 1, ?_, ?_⟩
    · walk_at "go"
      cases p with
      | nam who word c b e =>
        refine ⟨_, _, _, _, _, rfl, .own _, stm_ty T hst, kit_nn T, ?_⟩
        obtain ⟨a, dx, pc, pd, rfl, ha, hpc, hpd⟩ := hst
        obtain ⟨o1, o2, o3, o4⟩ := ok
        walk_at "go"
        refine ⟨a, _, dx, _, _, rfl, ha, T.c_Naming, T.a_Naming_own_chain, rfl, ?_⟩
        walk_at "go"
        refine ⟨by show 1 ≤ sizeLine; decide, fun a1 n1 => kNew n1 fun H1 s1 h1 => ?_⟩
        walk_at "go"
        refine ⟨a, _, dx, _, _, rfl, s1 _ _ ha, T.c_Naming, T.a_Naming_own_name, rfl, ?_⟩
        walk_at "go"
        refine ⟨by show 1 ≤ sizeLine; decide, fun l2 n2 => kNew n2 fun H2 s2 h2 => ?_⟩
        walk_at "go"
        exact ⟨a1, l2, _, [c], [word], _, rfl, s1.trans s2, s2 _ _ h1, h2, .cons (dp_chain0 (sq_t (s1.trans s2) hpc)) .nil, ne_of_none h1 n2, none_of s1 n2, by show 1 ≤ 4; decide, fun c' hc' => by rw [List.mem_singleton.mp hc']; exact o3, Nat.le_refl _⟩
      | lev who g t1 t2 b e o =>
        refine ⟨_, _, _, _, _, rfl, .own _, stm_ty T hst, kit_ln T, ?_⟩
        have hst0 := hst
        obtain ⟨a, dx, pg, pt, pd, vo, rfl, ha, hpg, _⟩ := hst
        obtain ⟨o1, o2, o3, o4, o5⟩ := ok
        walk_at "go"
        refine ⟨a, dx, _, rfl, ha, rfl, ?_⟩
        refine ⟨_, who, g, t1, t2, b, e, o, rfl, hst0, o2, fun q p u us H1 s1 hq hp hall => ?_⟩
        walk_at "go"
        refine ⟨q, _, _, _, rfl, rfl, hq, rfl, ?_⟩
        refine ⟨p, us, rfl, .inr hp, fun a1 n1 => kNew n1 fun H2 s2 h1 => ?_⟩
        walk_at "go"
        refine ⟨Nat.zero_le _, fun l2 n2 => kNew n2 fun H3 s3 h2 => ?_⟩
        walk_at "go"
        have s13 := s2.trans s3
        refine ⟨a1, l2, us, chainsOf g, [], _, rfl, s1.trans s13, s3 _ _ h1, h2, dpAll_same s13 hall, ne_of_none h1 n2, none_of (s1.trans s2) n2, ?_, ?_, Nat.zero_le _⟩
        · cases g with
          | one c => show 1 ≤ 4; decide
          | some k0 cs => exact o2.2.2.1
        · cases g with
          | one c => intro c' hc'; rw [List.mem_singleton.mp hc']; exact o2
          | some k0 cs => exact o2.2.2.2.2
    · rintro σ H1 ⟨a1, l2, us, cs, ws, o3, rfl, s1, h1, h2, hall, ne12, nl2, lc, okc, lw⟩
      have lus := dpAll_len hall
      walk_at "go"
      refine ⟨⟨_, sq_of h1⟩, for_it (walk_list (xs := us)) (fun i σ H' => ∃ (ws : List Str) (o3 : Option V), σ = [some v, some (.ref a1), some (.ref l2), o3] ∧ Same H H' ∧ H' a1 = some (.lst us) ∧ H' l2 = some (.lst (ws.map V.str)) ∧ DpAll K H' us (cs.map dChain) ∧ ws.length ≤ 1 + 4 * i)
        ⟨ws, _, rfl, s1, h1, h2, hall, lw⟩ (fun i σ H' _ ⟨_, _, _, _, h, _⟩ => sq_of h) ?_ ?_⟩
      · rintro i y σ _ H2 hi ⟨ws, o3, rfl, s02, h1, h2, hall, lw⟩ ⟨rfl, hy⟩
        have hc : cs[i]? = some (cs[i]'(by omega)) := List.getElem?_eq_getElem (by omega)
        have okc := okc _ (List.getElem_mem (show i < cs.length by omega))
        generalize cs[i]'(by omega) = c at hc okc
        obtain ⟨v', hv, hdv⟩ := dpAll_at hall hc
        rw [hy] at hv
        cases hv
        obtain ⟨pc, rfl, hpc⟩ := dp_chain hdv
        obtain ⟨p0, ns, rfl⟩ : ∃ p0 ns, c = p0 :: ns := List.exists_cons_of_ne_nil fun z => by have := okc.1; rw [z] at this; cases this
        have l5 := okc.2.1
        rw [List.length_cons] at l5
        walk_at "go"
        refine ⟨.inl ⟨rfl, _, sq_of h2⟩, ?_⟩
        walk_at "go"
        refine ⟨pc, _, rfl, hpc, fun h => absurd h tail_new, fun _ pn np => kNew np fun H3 s3 hpn => ?_⟩
        rw [List.map_cons, cut_tail] at hpn
        have h23 := s3 _ _ h2
        refine ⟨l2, pn, _, _, rfl, rfl, h23, st_of hpn, by rw [List.length_map, List.length_map]; exact Nat.le_of_lt (sz_lt (by omega)), kPut fun H4 w4 h4 => ?_⟩
        walk_at "go"
        rw [← List.map_append] at h4
        refine ⟨ws ++ ns, _, rfl, But.new (s02.trans s3) w4 nl2, w4 _ _ ne12 (s3 _ _ h1), h4, dp_butFAll w4 h23 rfl _ _ (noList_chains cs) (dpAll_same s3 hall), by rw [List.length_append]; omega⟩
      · rintro σ H2 ⟨ws, o3, rfl, s02, h1, h2, hall, lw⟩
        walk_at "go"
        obtain ⟨a, C, dx, fs, who, rfl, ha, cl, na, lk⟩ := stm_person T (hst.same s02)
        refine ⟨a, C, dx, fs, _, rfl, ha, cl, na, lk, ?_⟩
        walk_at "go"
        refine ⟨by show 1 ≤ sizeLine; decide, fun lp np => kNew np fun H3 s3 hlp => ?_⟩
        walk_at "go"
        have h13 := s3 _ _ h1
        refine ⟨⟨_, sq_of h13⟩, fun D nD => ?_⟩
        have n1D : a1 ≠ D := ne_of_none h13 nD
        refine lc_it (walk_list (xs := us)) (fun i H' => But D H3 H' ∧ ∃ zs : List Str, H' D = some (.lst (zs.map V.str)) ∧ zs.length = i) ⟨upd_but, [], upd_same, rfl⟩ (fun i H' _ ⟨w, _⟩ => sq_of (w _ _ n1D h13)) ?_ ?_
        · rintro i y _ H4 hi ⟨w4, zs, hD, lz⟩ ⟨rfl, hy⟩
          have s34 : Same H3 H4 := But.new (Same.refl H3) w4 nD
          have hc : cs[i]? = some (cs[i]'(by omega)) := List.getElem?_eq_getElem (by omega)
          have okc := okc _ (List.getElem_mem (show i < cs.length by omega))
          generalize cs[i]'(by omega) = c at hc okc
          obtain ⟨v', hv, hdv⟩ := dpAll_at (dpAll_same (s3.trans s34) hall) hc
          rw [hy] at hv
          cases hv
          obtain ⟨pc, rfl, hpc⟩ := dp_chain hdv
          obtain ⟨p0, ns, rfl⟩ : ∃ p0 ns, c = p0 :: ns := List.exists_cons_of_ne_nil fun z => by have := okc.1; rw [z] at this; cases this
          refine ⟨rfl, ?_⟩
          walk_at "go"
          refine ⟨pc, _, _, _, rfl, rfl, hpc, (show atI ((p0 :: ns).map V.str) 0 = some (.str p0) from at_nat (Int.le_refl 0) rfl), ?_⟩
          refine ⟨_, hD, by rw [List.length_map]; exact sz_lt (by omega), w4.trans upd_but, zs ++ [p0], by rw [upd_same, List.map_append]; rfl, by rw [List.length_append, lz]; rfl⟩
        · rintro H4 ⟨w4, zs, hD, lz⟩
          have s34 : Same H3 H4 := But.new (Same.refl H3) w4 nD
          refine ⟨lp, D, [.str who], zs.map V.str, rfl, rfl, s34 _ _ hlp, hD, by rw [List.length_map]; exact Nat.le_of_lt (sz_lt (by show 1 + zs.length < 1000000; omega)), fun lr nlr => kNew nlr fun H5 s5 hlr => ?_⟩
          walk_at "go"
          refine ⟨by show 2 ≤ sizeLine; decide, fun q nq => kNew nq fun H6 s6 hq => ?_⟩
          have s26 := ((s3.trans s34).trans s5).trans s6
          exact k q lr l2 (who :: zs) ws H6 (s02.trans s26) (st_of hq) (s6 _ _ hlr) (s26 _ _ h2) nl2 (by rw [List.length_cons]; omega) (by omega)
end
end NC
-- NcBook3
set_option Elab.async false
set_option linter.all false
set_option maxRecDepth 100000
set_option maxHeartbeats 4000000
namespace NC
local macro_rules | `(tactic| walk_at "go") => `(tactic| (repeat (first
  | (refine ⟨_, rfl, ?_⟩)
  | (refine ⟨_, _, rfl, rfl, ?_⟩)
  | (refine ⟨_, _, rfl, ?_⟩)
  | (refine ⟨_, _, _, rfl, ?_⟩)
  | (refine Or.inl ⟨_, rfl, ?_⟩)
  | (refine iteT ?_)
  | (refine iteF ?_))))
open PySem PySem.Spec PyProof.Rows L2 PySem.W NdefX
def BookAt (K : PySem.W.Frag) (H : Hp) (a : Addr) (us : List V) (xs : List Plain) : Prop := ∃ dx pt pp pn, H a = some (.ins (He.ga K "Book") dx [("own_statements", .ref pt), ("own_persons", .ref pp), ("own_names", .ref pn)]) ∧ SqT K H pt us ∧ Stms K H us xs
theorem BookAt.same {K : PySem.W.Frag} {H H' : Hp} {a : Addr} {us : List V} {xs : List Plain} (s : Same H H') (h : BookAt K H a us xs) : BookAt K H' a us xs := by
  obtain ⟨dx, pt, pp, pn, h1, h2, h3⟩ := h
  exact ⟨dx, pt, pp, pn, s _ _ h1, sq_t s h2, h3.same s⟩
theorem Stm.butI {K : PySem.W.Frag} {H H' : Hp} {x C dx : Addr} {fs : List (Str × V)} {v : V} {p : Plain} (w : But x H H') (hx : H x = some (.ins C dx fs)) (hf : fs.length ≤ 3) (h : Stm K H v p) : Stm K H' v p := by
  cases p with
  | nam who word c b e =>
    obtain ⟨a, dx', pc, pd, rfl, ha, h1, h2⟩ := h
    have ne : a ≠ x := fun z => by
      rw [z, hx] at ha
      cases ha
      exact absurd hf (by show ¬ 4 ≤ 3; decide)
    exact ⟨a, dx', pc, pd, rfl, w _ _ ne ha, bt_t w hx rfl h1, bt_t w hx rfl h2⟩
  | lev who g t1 t2 b e o =>
    obtain ⟨a, dx', pg, pt, pd, vo, rfl, ha, h1, h2, h3, h4⟩ := h
    have ne : a ≠ x := fun z => by
      rw [z, hx] at ha
      cases ha
      exact absurd hf (by show ¬ 5 ≤ 3; decide)
    exact ⟨a, dx', pg, pt, pd, vo, rfl, w _ _ ne ha, dp_butF w hx rfl _ _ (noList_subj g) h1, bt_t w hx rfl h2, bt_t w hx rfl h3, dp_butF w hx rfl _ _ (noList_opt o) h4⟩
theorem Stms.butI {K : PySem.W.Frag} {H H' : Hp} {x C dx : Addr} {fs : List (Str × V)} {us : List V} {xs : List Plain} (w : But x H H') (hx : H x = some (.ins C dx fs)) (hf : fs.length ≤ 3) (h : Stms K H us xs) : Stms K H' us xs := ⟨h.1, fun i v e => by obtain ⟨p, h1, h2⟩ := h.2 i v e; exact ⟨p, h1, h2.butI w hx hf⟩⟩
def spBookI (K : PySem.W.Frag) : Sp := fun vs H Q _ => ∃ (x dx pt : Addr) (us : List V) (xs : List Plain), vs = [.ref x, .ref pt] ∧ H x = some (.ins (He.ga K "Book") dx []) ∧ SqT K H pt us ∧ Stms K H us xs ∧ xs.Nodup ∧ xs.length ≤ 24 ∧ (∀ p ∈ xs, PlainOk p) ∧
  ∀ H' pp pn, But x H H' → H' x = some (.ins (He.ga K "Book") dx [("own_statements", .ref pt), ("own_persons", .ref pp), ("own_names", .ref pn)]) → Q .non H'
def spBookR (K : PySem.W.Frag) : Sp := fun vs H Q _ => ∃ (x dx : Addr) (us : List V) (xs : List Plain), vs = .ref x :: us ∧ H x = some (.ins (He.ga K "Book") dx []) ∧ Stms K H us xs ∧ xs.Nodup ∧ xs.length ≤ 24 ∧ (∀ p ∈ xs, PlainOk p) ∧
  ∀ H', But x H H' → BookAt K H' x us xs → Q .non H'
abbrev NN_Book__init : List Str := ["self", "statements", "people", "names", "statement", "some", "words"]
theorem sc_Book_init : FnScope NN_Book__init ["self", "statements"] (defScope s_Book_init) := ⟨rfl, rfl, rfl, by decide +kernel, rfl, by decide +kernel, by decide +kernel⟩
section
variable {P : Program} {w : World} {K : PySem.W.Frag} {mg : Str → Option Value} {base : Heap}
-- 0 self; 1 statements; 2 people; 3 names; 4 statement; 5 some; 6 words
theorem m_Book_init (T : Txt K mg) : FnR P w K mg base CX0 3 (He.ma K (He.ga K "Book") "__init__") (spBookR K) := by
  have c_need_statements : Cal P w K mg base 1 "need_statements" (spNeedSt K) := cal_need_statements T
  have c_need_unlike : Cal P w K mg base 2 "need_unlike" (spNeedUn K) := cal_need_unlike T
  have c_words_of : Cal P w K mg base 2 "words_of" (spWordsOf K) := cal_words_of T
  obtain ⟨fd, F⟩ := T.f_Book_init
  obtain ⟨oc, od, dV, kV, doc, pm, an, cdv, ct, osl, rfl, lk, hcd, hD, _⟩ := F.ex
  obtain rfl : dV = .none := by
    rcases hD with ⟨_, e⟩ | ⟨e, _⟩
    · exact e
    · exact absurd rfl e
  refine (StX.fn_star (ps := ["self"]) (pv := "statements") lk hcd sc_Book_init StX.cxUp_none (sp := spBookI K) (StX.bind_star1 (B := fun l => bindArgs _ ⟨l, []⟩) (fun _ => rfl) (fun _ _ _ => rfl)) (fun A outer s H vs Q E hr h => ?_)).imp fun vs H Q E h => ?_
  · obtain ⟨x, dx, pt, us, xs, rfl, hx, hpt, hs, ndx, lx, okx, k⟩ := h
    have nd := (sc_Book_init).nd
    have hu := hu_of hr
    suffices z : ∃ t, PSs (cxOf CX0 P w K mg base NN_Book__init d_Book_init.qual d_Book_init.scope (He.ma K (He.ga K "Book") "__init__") cdv A outer s H E).nox d_Book_init.body t ∧ t { nx := fun _ H' => Q .non H', rt := Q } (start NN_Book__init [.ref x, .ref pt]) H by
      obtain ⟨t, h1, h2⟩ := z
      exact ⟨t, h1.nox, h2⟩
    refine ⟨_, 
      (pss_cons (ps_expr (pe_c c_need_statements hr (by rfl) (pa_cons (pv 1) pa_nil)))
      (pss_cons (ps_if (pt_cmpR op_gt (bB call_len T.n_len (pa_cons (pv 1) pa_nil)) (pe_gi T.i_MAX_STATEMENTS) (nomark _)) 
        (pss_one ps_never) pss_nil)
      (pss_cons (ps_expr (pe_c c_need_unlike hr (by rfl) (pa_cons (pv 1) (pa_cons (pe_tup pa_nil) pa_nil))))
      (pss_cons (ps_fld (pv 0) (pv 1) rfl)
      (pss_cons (ps_par (i := 2) (j := 3) rfl nd rfl rfl (by decide) rfl rfl (pa_cons (pe_lst pa_nil) (pa_cons (pe_lst pa_nil) pa_nil)) (by rfl))
      (pss_cons (ps_for PassesOwn.never rfl (pi_tup (pv 1)) (pg_name (i := 4) nd rfl (Or.inl rfl)) 
        (pss_cons (ps_asg (pe_c c_words_of hr (by rfl) (pa_cons (pv 4) pa_nil)) (pg_tup rfl (pgs_cons (pg_name (i := 5) nd rfl (Or.inl rfl)) (pgs_cons (pg_name (i := 6) nd rfl (Or.inl rfl)) pgs_nil))))
        (pss_cons (ps_expr (pe_bm PySem.F.plainAttrs_list PySem.F.slot_list_extend PySem.F.type_list_extend mt_extend (pv 2) (pa_cons (pv 5) pa_nil)))
        (pss_one (ps_expr (pe_bm PySem.F.plainAttrs_list PySem.F.slot_list_extend PySem.F.type_list_extend mt_extend (pv 3) (pa_cons (pv 6) pa_nil)))))))
      (pss_cons (ps_fld (pv 0) (bT call_tuple_of T.n_tuple (pa_cons (bB (cr_sortedM rfl hr.units) T.n_sorted (pa_cons (bT (cr_setOf rfl) T.n_set (pa_cons (pv 2) pa_nil)) pa_nil)) pa_nil)) rfl)
      (pss_one (ps_fld (pv 0) (bT call_tuple_of T.n_tuple (pa_cons (bB (cr_sortedM rfl hr.units) T.n_sorted (pa_cons (bT (cr_setOf rfl) T.n_set (pa_cons (pv 3) pa_nil)) pa_nil)) pa_nil)) rfl))))))))), ?_⟩
    walk_at "go"
    refine ⟨pt, us, xs, rfl, hpt, hs, fun H1 s1 => ?_⟩
    walk_at "go"
    refine ⟨_, us.length, rfl, .inr ⟨_, sq_t s1 hpt, rfl⟩, ?_⟩
    have lus := hs.1
    walk_at "go"
    refine iteD (fun c1 => absurd c1 (by omega)) (fun c1 => ?_)
    walk_at "go"
    refine ⟨Nat.zero_le _, fun t0 n0 => kNew n0 fun H2 s2 h0 => ?_⟩
    have s02 := s1.trans s2
    refine ⟨pt, t0, us, [], xs, [], rfl, sq_t s02 hpt, hs.same s02, st_of h0, .nil, by rw [List.nil_append]; exact ndx, Nat.zero_le _, lx, fun H3 s3 => ?_⟩
    walk_at "go"
    have s03 := s02.trans s3
    have hx3 := s03 _ _ hx
    refine ⟨x, _, dx, _, rfl, hx3, T.c_Book, T.a_Book_own_statements, by show 0 < 1000; decide, kPut fun H4 w4 h4 => ?_⟩
    have h4 : H4 x = some (.ins (He.ga K "Book") dx [("own_statements", .ref pt)]) := h4
    have pt4 := bt_t w4 hx3 rfl (sq_t s03 hpt)
    have hs4 := (hs.same s03).butI w4 hx3 (by show 0 ≤ 3; decide)
    have b04 : But x H H4 := Same.but s03 w4
    walk_at "go"
    refine ⟨Nat.zero_le _, fun la na => kNew na fun H5 s5 h5 => ?_⟩
    walk_at "go"
    refine ⟨Nat.zero_le _, fun lb nb => kNew nb fun H6 s6 h6 => ?_⟩
    walk_at "go"
    have s46 := s5.trans s6
    have h56 := s6 _ _ h5
    have nab : la ≠ lb := ne_of_none h5 nb
    have nb4 : H4 lb = none := none_of s5 nb
    refine ⟨⟨_, sq_t s46 pt4⟩, for_it (walk_tup (xs := us)) (fun i σ H' => ∃ (zs ws : List Str) (o4 o5 o6 : Option V), σ = [some (.ref x), some (.ref pt), some (.ref la), some (.ref lb), o4, o5, o6] ∧ Same H4 H' ∧ H' la = some (.lst (zs.map V.str)) ∧ H' lb = some (.lst (ws.map V.str)) ∧ zs.length ≤ 5 * i ∧ ws.length ≤ 20 * i)
      ⟨[], [], _, _, _, rfl, s46, h56, h6, Nat.zero_le _, Nat.zero_le _⟩ (fun i σ H' _ ⟨_, _, _, _, _, _, s, _⟩ => sq_t s pt4) ?_ ?_⟩
    · rintro i y σ _ H7 hi ⟨zs, ws, o4, o5, o6, rfl, s47, ha, hb, lz, lw⟩ ⟨rfl, hy⟩
      obtain ⟨p, hp, hst⟩ := (hs4.same s47).2 i y hy
      have okp := okx p (List.mem_of_getElem? hp)
      walk_at "go"
      refine ⟨y, p, rfl, hst, okp, fun q l1 l2 zs' ws' H8 s8 hq h1 h2 n2 lz' lw' => ?_⟩
      refine ⟨q, _, rfl, hq, rfl, ?_⟩
      refine ⟨_, _, rfl, ?_⟩
      refine ⟨_, _, rfl, ?_⟩
      refine ⟨rfl, ?_⟩
      walk_at "go"
      have ha8 := s8 _ _ ha
      refine ⟨.inl ⟨rfl, _, sq_of ha8⟩, ?_⟩
      walk_at "go"
      refine ⟨la, l1, _, _, rfl, rfl, ha8, h1, by rw [List.length_map, List.length_map]; exact Nat.le_of_lt (sz_lt (by omega)), kPut fun H9 w9 h9 => ?_⟩
      have hb8 := s8 _ _ hb
      have hb9 := w9 _ _ (Ne.symm nab) hb8
      rw [← List.map_append] at h9
      walk_at "go"
      refine ⟨.inl ⟨rfl, _, sq_of hb9⟩, ?_⟩
      walk_at "go"
      have n2a : l2 ≠ la := fun z => by rw [z, ha] at n2; cases n2
      refine ⟨lb, l2, _, _, rfl, rfl, hb9, w9 _ _ n2a h2, by rw [List.length_map, List.length_map]; exact Nat.le_of_lt (sz_lt (by omega)), kPut fun H10 w10 h10 => ?_⟩
      rw [← List.map_append] at h10
      walk_at "go"
      refine ⟨zs ++ zs', ws ++ ws', _, _, _, rfl, But.new (But.new (s47.trans s8) w9 na) w10 nb4, w10 _ _ nab h9, h10, by rw [List.length_append]; omega, by rw [List.length_append]; omega⟩
    · rintro σ H7 ⟨zs, ws, o4, o5, o6, rfl, s47, ha, hb, lz, lw⟩
      walk_at "go"
      refine ⟨la, zs.map Sum.inr, rfl, .inl (by rw [List.map_map]; exact sq_of ha), by rw [List.length_map]; omega, fun sa nsa => kNew nsa fun H8 s8 h8 => ?_⟩
      walk_at "go"
      refine ⟨sa, _, rfl, h8, fun key hk => ?_, fun ys l2 asy mem len nl2 => kNew nl2 fun H9 s9 h9 => ?_⟩
      · obtain ⟨i, _, rfl⟩ := List.mem_map.mp (mem_once.mp hk)
        exact ⟨i, rfl⟩
      walk_at "go"
      refine ⟨l2, _, rfl, .inl ⟨sq_of h9, fun pp npp => kNew npp fun H10 s10 h10 => ?_⟩⟩
      walk_at "go"
      have s4a := ((s47.trans s8).trans s9).trans s10
      refine ⟨x, _, dx, _, rfl, s4a _ _ h4, T.c_Book, T.a_Book_own_persons, by show 1 < 1000; decide, kPut fun H11 w11 h11 => ?_⟩
      have hxA := s4a _ _ h4
      have h11 : H11 x = some (.ins (He.ga K "Book") dx [("own_statements", .ref pt), ("own_persons", .ref pp)]) := h11
      have lbx : lb ≠ x := fun z => by rw [z, h4] at nb4; cases nb4
      have hb11 := w11 _ _ lbx (((s8.trans s9).trans s10) _ _ hb)
      walk_at "go"
      refine ⟨lb, ws.map Sum.inr, rfl, .inl (by rw [List.map_map]; exact sq_of hb11), by rw [List.length_map]; omega, fun sb nsb => kNew nsb fun H12 s12 h12 => ?_⟩
      walk_at "go"
      refine ⟨sb, _, rfl, h12, fun key hk => ?_, fun ys2 l3 asy2 mem2 len2 nl3 => kNew nl3 fun H13 s13 h13 => ?_⟩
      · obtain ⟨i, _, rfl⟩ := List.mem_map.mp (mem_once.mp hk)
        exact ⟨i, rfl⟩
      walk_at "go"
      refine ⟨l3, _, rfl, .inl ⟨sq_of h13, fun pn npn => kNew npn fun H14 s14 h14 => ?_⟩⟩
      walk_at "go"
      have sB := (s12.trans s13).trans s14
      refine ⟨x, _, dx, _, rfl, sB _ _ h11, T.c_Book, T.a_Book_own_names, by show 2 < 1000; decide, kPut fun H15 w15 h15 => ?_⟩
      exact k H15 pp pn (b04.trans (Same.but s4a (w11.trans (Same.but sB w15)))) h15
  · obtain ⟨x, dx, us, xs, rfl, hx, hs, ndx, lx, okx, k⟩ := h
    have lz : us.length ≤ sizeLine := by rw [hs.1]; exact Nat.le_of_lt (sz_lt (by omega))
    refine ⟨[.ref x], us, rfl, rfl, lz, fun p np => kNew np fun H1 s1 h1 => ?_⟩
    have hx1 := s1 _ _ hx
    refine ⟨x, dx, p, us, xs, rfl, hx1, st_of h1, hs.same s1, ndx, lx, okx, fun H2 pp pn w2 h2 => ?_⟩
    exact k H2 (Same.but s1 w2) ⟨dx, p, pp, pn, h2, bt_t w2 hx1 rfl (st_of h1), (hs.same s1).butI w2 hx1 (by show 0 ≤ 3; decide)⟩
end
end NC
-- NcBook4
set_option Elab.async false
set_option linter.all false
set_option maxRecDepth 100000
set_option maxHeartbeats 4000000
namespace NC
local macro_rules | `(tactic| walk_at "go") => `(tactic| (repeat (first
  | (refine ⟨_, rfl, ?_⟩)
  | (refine ⟨_, _, rfl, rfl, ?_⟩)
  | (refine ⟨_, _, rfl, ?_⟩)
  | (refine ⟨_, _, _, rfl, ?_⟩)
  | (refine Or.inl ⟨_, rfl, ?_⟩)
  | (refine iteT ?_)
  | (refine iteF ?_))))
open PySem PySem.Spec PyProof.Rows L2 PySem.W NdefX
section
variable {X : Cx} {k j : Nat} {f C : Addr} {sp : Sp} {x m : Str} {e o : Expr} {es : List Expr} {te ta : TE} {t : TA} {p sp_ pos apos : Pos} {ps : List Str}
def tMakeS (K : PySem.W.Frag) (C : Addr) (sp : Sp) (te : TE) : TE := fun σ H Q => te σ H fun y H1 => ∃ a us, y = .ref a ∧ (SqT K H1 a us ∨ SqL K H1 a us) ∧ ∀ x dx, H1 x = none → H1 dx = none → dx ≠ x → sp (.ref x :: us) (upd (upd H1 dx (.own x)) x (.ins C dx [])) (fun v H2 => v = .non ∧ Q (.ref x) H2) E0
/-- C(*y) -/
theorem pe_makeS1 (M : Mk X.K C f) (F : FnR X.prog X.w X.K X.mg X.base CX0 k f sp) (hr : Room j X.A) (hg : Gl X x) (hm : X.mg x = some (.ref C)) (he : PE X e te) (hk : k + 1 ≤ j := by decide) (hd : (x == ("__debug__" : Str)) = false := by decide)
    (hst : starEach [.Starred e sp_] X.env = [(true, eval e X.env)] := by rfl) : PE X (.Call (.Name x p) [.Starred e sp_] [] pos) (tMakeS X.K C sp te) := by
  refine ⟨fun pins s σ H Q I h => ?_⟩
  refine wpAny_Call_Name_kw (ld_glob I hg hm ?_ hd)
  refine PySem.W.callWith_S (h₀ := X.base) I.ok.mod.kin M.kp (thn (he.run pins s σ H _ I h) fun v s1 ⟨y, H1, I1, ry, a, xs, ey, hxs, q⟩ => ?_) hst
  subst ey
  obtain rfl : v = Value.ref a := ry
  exact StX.star_any I1 hxs fun us s2 I2 rv => ⟨I2.kIn, StX.run_makeR M F (hr.mono hk) pass0 I2 rv q⟩
def tMake0 (C : Addr) (sp : Sp) : TE := fun _ H Q => ∀ x dx, H x = none → H dx = none → dx ≠ x → sp [.ref x] (upd (upd H dx (.own x)) x (.ins C dx [])) (fun v H2 => v = .non ∧ Q (.ref x) H2) E0
/-- C() -/
theorem pe_makeR0 (M : Mk X.K C f) (F : FnR X.prog X.w X.K X.mg X.base CX0 k f sp) (hr : Room j X.A) (hg : Gl X x) (hm : X.mg x = some (.ref C)) (hk : k + 1 ≤ j := by decide) (hd : (x == ("__debug__" : Str)) = false := by decide) : PE X (.Call (.Name x p) [] [] pos) (tMake0 C sp) := by
  refine ⟨fun pins s σ H Q I h => ?_⟩
  refine wpAny_Call_Name_kw (ld_glob I hg hm ?_ hd)
  exact PySem.W.callWith_K0 I.kIn M.kp (StX.run_makeR (us := []) M F (hr.mono hk) pass0 I .nil h)
/-- C(e, ..), __init__ a method told by MthOk -/
theorem pe_mkM (M : Mk X.K C f) (F : MthOk X.prog X.w X.K X.mg X.base k f ps sp) (hr : Room j X.A) (hg : Gl X x) (hm : X.mg x = some (.ref C)) (ha : PA X (e :: es) t) (hk : k + 1 ≤ j := by decide) (hdb : (x == ("__debug__" : Str)) = false := by decide)
    (he : starEach (e :: es) X.env = (false, eval e X.env) :: starEach es X.env := by rfl) (hpl : (backTo pos (starEach es X.env)).any (·.1) = false := by rfl) : PE X (.Call (.Name x p) (e :: es) [] pos) (tMake C sp [] E0 t) := by
  obtain ⟨fd, F, b⟩ := F.ex
  exact pe_make M F (hr.mono hk) hg hm b .nil pass0 ha hdb he hpl
def tMethR (C : Addr) (m : Str) (sp : Sp) (ta : TE) (t : TA) : TE := fun σ H Q => ta σ H fun x H1 => ∃ a dx fs, x = .ref a ∧ H1 a = some (.ins C dx fs) ∧ fs.lookup m = none ∧ t σ H1 fun vs H2 => sp (x :: vs) H2 Q E0
/-- o.m(e, ..), m told by a promise over any number of arguments -/
theorem pe_methR {pl : Sem Bool} (he : PE X o ta) (c : Cls X.K C) (hm : Meth X.K C m f) (F : FnR X.prog X.w X.K X.mg X.base CX0 k f sp) (hr : Room j X.A) (ha : PA X (e :: es) t) (hk : k ≤ j := by decide)
    (hst : starEach (e :: es) X.env = (false, eval e X.env) :: starEach es X.env := by rfl) (hpl : (backTo pos (starEach es X.env)).any (·.1) = false := by rfl)
    (ht : eval (.Call (.Attribute o m apos) (e :: es) [] pos) X.env = (do
      let ov ← eval o X.env
      standAt apos.atName
      let (f, first) ← holding [ov] (getMethod ov m pl)
      callWith pos f first (backTo pos (starEach (e :: es) X.env)) (backToKw pos (keywordEach [] X.env))) := by rfl) :
    PE X (.Call (.Attribute o m apos) (e :: es) [] pos) (tMethR C m sp ta t) := by
  refine ⟨fun pins s σ H Q I h => ?_⟩
  refine PySem.W.methodCall_KW (pl := pl) (thn (he.run pins s σ H _ I h) fun u s1 ⟨x, H1, I1, rx, a, dx, fs, ex, ea, l, q⟩ => ?_) ht
  subst ex
  obtain rfl : u = Value.ref a := rx
  refine getmeth_ok I1 ea c hm l ?_
  refine PySem.W.callWith_K (first := [.ref a]) (h₀ := X.base) I.ok.mod.kin hm.kp (thn (ha.run pos pins s1 σ H1 _ I1 q) fun us s2 ⟨vs, H2, I2, r, q2⟩ => ⟨I2.kIn, ?_⟩) hst hpl
  exact wpAny_call (run_fnR (us := .ref a :: us) (vs := .ref a :: vs) F (hr.mono hk) pass0 I2 (.cons rfl r) q2)
end
def spMoreI (K : PySem.W.Frag) : Sp := fun vs H Q _ => ∃ (a pt : Addr) (us ws : List V) (xs ys : List Plain), vs = [.ref a, .ref pt] ∧ BookAt K H a ws ys ∧ SqT K H pt us ∧ Stms K H us xs ∧ (ys ++ xs).Nodup ∧ (ys ++ xs).length ≤ 24 ∧ (∀ p ∈ ys ++ xs, PlainOk p) ∧ us ≠ [] ∧
  ∀ b H', Same H H' → BookAt K H' b (ws ++ us) (ys ++ xs) → Q (.ref b) H'
def spMoreR (K : PySem.W.Frag) : Sp := fun vs H Q _ => ∃ (a : Addr) (us ws : List V) (xs ys : List Plain), vs = .ref a :: us ∧ BookAt K H a ws ys ∧ Stms K H us xs ∧ (ys ++ xs).Nodup ∧ (ys ++ xs).length ≤ 24 ∧ (∀ p ∈ ys ++ xs, PlainOk p) ∧ us ≠ [] ∧
  ∀ b H', Same H H' → BookAt K H' b (ws ++ us) (ys ++ xs) → Q (.ref b) H'
def spMade (K : PySem.W.Frag) : Sp := fun vs H Q _ => ∃ (v : V) (p : Plain), vs = [v] ∧ Hd K H v p ∧ PlainOk p ∧ ∀ v' H', Same H H' → Stm K H' v' p → Q v' H'
def spBook (K : PySem.W.Frag) : Sp := fun vs H Q _ => ∃ (a : Addr) (us : List V) (xs : List Plain), vs = [.ref a] ∧ H a = some (.lst us) ∧ HdAll K H us xs ∧ xs.Nodup ∧ xs.length ≤ 24 ∧ (∀ p ∈ xs, PlainOk p) ∧ ∀ b ws H', Same H H' → BookAt K H' b ws xs → Q (.ref b) H'
abbrev NN_Book_with_more : List Str := ["self", "statements", "both"]
theorem sc_Book_with_more : FnScope NN_Book_with_more ["self", "statements"] (defScope s_Book_with_more) := ⟨rfl, rfl, rfl, by decide +kernel, rfl, by decide +kernel, by decide +kernel⟩
abbrev NN_law_made : List Str := ["_law_plain"]
theorem sc_law_made : FnScope NN_law_made ["_law_plain"] (defScope s_law_made) := ⟨rfl, rfl, rfl, by decide +kernel, rfl, by decide +kernel, by decide +kernel⟩
abbrev NN_law_book : List Str := ["_law_plains", "_law_house", "_law_plain"]
theorem sc_law_book : FnScope NN_law_book ["_law_plains"] (defScope s_law_book) := ⟨rfl, rfl, rfl, by decide +kernel, rfl, by decide +kernel, by decide +kernel⟩
section
variable {P : Program} {w : World} {K : PySem.W.Frag} {mg : Str → Option Value} {base : Heap}
-- 0 self; 1 statements; 2 both
theorem m_Book_more (T : Txt K mg) : FnR P w K mg base CX0 5 (He.ma K (He.ga K "Book") "with_more") (spMoreR K) := by
  have c_need_statements : Cal P w K mg base 1 "need_statements" (spNeedSt K) := cal_need_statements T
  have c_need_unlike : Cal P w K mg base 2 "need_unlike" (spNeedUn K) := cal_need_unlike T
  obtain ⟨fd, F⟩ := T.f_Book_with_more
  obtain ⟨oc, od, dV, kV, doc, pm, an, cdv, ct, osl, rfl, lk, hcd, hD, _⟩ := F.ex
  obtain rfl : dV = .none := by
    rcases hD with ⟨_, e⟩ | ⟨e, _⟩
    · exact e
    · exact absurd rfl e
  refine (StX.fn_star (ps := ["self"]) (pv := "statements") lk hcd sc_Book_with_more StX.cxUp_none (sp := spMoreI K) (StX.bind_star1 (B := fun l => bindArgs _ ⟨l, []⟩) (fun _ => rfl) (fun _ _ _ => rfl)) (fun A outer s H vs Q E hr h => ?_)).imp fun vs H Q E h => ?_
  · obtain ⟨a, pt, us, ws, xs, ys, rfl, B, hpt, hs, ndx, lx, okx, ne, k⟩ := h
    have nd := (sc_Book_with_more).nd
    have hu := hu_of hr
    rw [List.length_append] at lx
    suffices z : ∃ t, PSs (cxOf CX0 P w K mg base NN_Book_with_more d_Book_with_more.qual d_Book_with_more.scope (He.ma K (He.ga K "Book") "with_more") cdv A outer s H E).nox d_Book_with_more.body t ∧ t { nx := fun _ H' => Q .non H', rt := Q } (start NN_Book_with_more [.ref a, .ref pt]) H by
      obtain ⟨t, h1, h2⟩ := z
      exact ⟨t, h1.nox, h2⟩
    obtain ⟨dx, pq, pp, pn, ha, hpq, hws⟩ := B
    have lus := hs.1
    have lws := hws.1
    refine ⟨_, 
      (pss_cons (ps_expr (pe_c c_need_statements hr (by rfl) (pa_cons (pv 1) pa_nil)))
      (pss_cons (ps_if (pt_cmpR op_gt (pe_op op_add (bB call_len T.n_len (pa_cons (pe_fld (pv 0) rfl) pa_nil)) (bB call_len T.n_len (pa_cons (pv 1) pa_nil))) (pe_gi T.i_MAX_STATEMENTS) (nomark _)) 
        (pss_one ps_never) pss_nil)
      (pss_cons (ps_expr (pe_c c_need_unlike hr (by rfl) (pa_cons (pv 1) (pa_cons (pe_fld (pv 0) rfl) pa_nil))))
      (pss_cons (ps_set (i := 2) nd rfl (Or.inl rfl) (pe_op op_catA (pe_fld (pv 0) rfl) (pv 1)))
      (pss_one (ps_ret (pe_makeS1 T.k_Book (m_Book_init T) hr (by rfl) T.g_Book (pv 2)))))))), ?_⟩
    walk_at "go"
    refine ⟨pt, us, xs, rfl, hpt, hs, fun H1 s1 => ?_⟩
    walk_at "go"
    refine ⟨a, _, dx, _, _, rfl, s1 _ _ ha, T.c_Book, T.a_Book_own_statements, rfl, ?_⟩
    refine ⟨_, ws.length, rfl, .inr ⟨_, sq_t s1 hpq, rfl⟩, ?_⟩
    walk_at "go"
    refine ⟨_, us.length, rfl, .inr ⟨_, sq_t s1 hpt, rfl⟩, ?_⟩
    walk_at "go"
    refine iteD (fun c1 => absurd c1 (by omega)) (fun c1 => ?_)
    walk_at "go"
    refine ⟨a, _, dx, _, _, rfl, s1 _ _ ha, T.c_Book, T.a_Book_own_statements, rfl, ?_⟩
    refine ⟨pt, pq, us, ws, xs, ys, rfl, sq_t s1 hpt, hs.same s1, sq_t s1 hpq, hws.same s1, ndx, by omega, by omega, fun H2 s2 => ?_⟩
    have s02 := s1.trans s2
    walk_at "go"
    refine ⟨a, _, dx, _, _, rfl, s02 _ _ ha, T.c_Book, T.a_Book_own_statements, rfl, ?_⟩
    walk_at "go"
    have fin : ∀ (pb : Addr) (H3 : Hp), Same H2 H3 → SqT K H3 pb (ws ++ us) → ∀ x dx, H3 x = none → H3 dx = none → dx ≠ x → spBookR K (.ref x :: (ws ++ us)) (upd (upd H3 dx (.own x)) x (.ins (He.ga K "Book") dx [])) (fun v H2 => v = .non ∧ Q (.ref x) H2) E0 := fun pb H3 s3 hpb x dx nx ndx' ne' => by
      have s4 : Same H3 (upd (upd H3 dx (.own x)) x (.ins (He.ga K "Book") dx [])) := (upd_new ndx').trans (upd_new (by rw [upd_ne (Ne.symm ne')]; exact nx))
      have s24 := s3.trans s4
      refine ⟨x, dx, ws ++ us, ys ++ xs, rfl, upd_same, (hws.same (s02.trans s24)).app (hs.same (s02.trans s24)), ndx, by rw [List.length_append]; exact lx, okx, fun H5 w5 B5 => ⟨rfl, k x H5 ?_ B5⟩⟩
      refine (s02.trans s3).trans fun b o e => w5 _ _ (ne_of_none e nx) (s4 _ _ e)
    refine ⟨pq, pt, ws, us, rfl, rfl, sq_t s02 hpq, sq_t s02 hpt, Nat.le_of_lt (sz_lt (by omega)), fun h => ?_, fun _ h => absurd h ne, fun h _ p np => kNew np fun H3 s3 hp => ?_⟩
    · refine ⟨_, rfl, pt, ws ++ us, rfl, .inl ?_, fin pt H2 (Same.refl H2) ?_⟩
      · rw [h]
        exact sq_t s02 hpt
      · rw [h]
        exact sq_t s02 hpt
    · exact ⟨_, rfl, p, ws ++ us, rfl, .inl (st_of hp), fin p H3 s3 (st_of hp)⟩
  · obtain ⟨a, us, ws, xs, ys, rfl, B, hs, ndx, lx, okx, ne, k⟩ := h
    have lz : us.length ≤ sizeLine := by rw [hs.1]; rw [List.length_append] at lx; exact Nat.le_of_lt (sz_lt (by omega))
    refine ⟨[.ref a], us, rfl, rfl, lz, fun p np => kNew np fun H1 s1 h1 => ?_⟩
    exact ⟨a, p, us, ws, xs, ys, rfl, B.same s1, st_of h1, hs.same s1, ndx, lx, okx, ne, fun b H2 s2 => k b H2 (s1.trans s2)⟩
-- 0 _law_plain
theorem cal_made (T : Txt K mg) (hP : PrgOk P) : Cal P w K mg base 7 "_law_made" (spMade K) := by
  refine cal_of T.f_law_made T.g_law_made sc_law_made (fun vs H Q E h => ?_) (fun _ _ _ _ _ _ us hl => match us, hl with | [_], _ => rfl) (fun cdv A outer s H vs Q E hr h => ?_)
  · obtain ⟨v, p, rfl, _⟩ := h
    rfl
  · obtain ⟨v, p, rfl, hv, ok, k⟩ := h
    have nd := sc_law_made.nd
    refine ⟨_, 
      (pss_cons (ps_if (pt_cmpR op_eq (pe_ix ix_tup (pv 0) pe_int (fun _ _ => rfl)) pe_str (nomark _)) 
        (pss_one (ps_ret (pe_mkM T.k_Naming (m_Naming_init T hP) hr (by rfl) T.g_Naming (pa_cons (pe_ix ix_tup (pv 0) pe_int (fun _ _ => rfl)) (pa_cons (pe_ix ix_tup (pv 0) pe_int (fun _ _ => rfl)) (pa_cons (pe_ix ix_tup (pv 0) pe_int (fun _ _ => rfl)) (pa_cons (pe_ix ix_tup (pv 0) pe_int (fun _ _ => rfl)) pa_nil)))) (by decide)))) pss_nil)
      (pss_one (ps_ret (pe_mkM T.k_Leave (m_Leave_init T hP) hr (by rfl) T.g_Leave (pa_cons (pe_ix ix_tup (pv 0) pe_int (fun _ _ => rfl)) (pa_cons (pe_ix ix_tup (pv 0) pe_int (fun _ _ => rfl)) (pa_cons (pe_ix ix_tup (pv 0) pe_int (fun _ _ => rfl)) (pa_cons (pe_ix ix_tup (pv 0) pe_int (fun _ _ => rfl)) (pa_cons (pe_ix ix_tup (pv 0) pe_int (fun _ _ => rfl)) pa_nil))))) (by decide))))), ?_⟩
    walk_at "go"
    cases p with
    | nam who word c b e =>
      obtain ⟨p, pc, pd, rfl, q1, q2, q3⟩ := hd_nam hv
      refine ⟨p, _, _, _, rfl, rfl, q1, rfl, ?_⟩
      walk_at "go"
      refine ⟨rfl, ?_⟩
      walk_at "go"
      refine ⟨p, _, _, _, rfl, rfl, q1, rfl, ?_⟩
      walk_at "go"
      refine ⟨p, _, _, _, rfl, rfl, q1, rfl, ?_⟩
      walk_at "go"
      refine ⟨p, _, _, _, rfl, rfl, q1, rfl, ?_⟩
      walk_at "go"
      refine ⟨p, _, _, _, rfl, rfl, q1, rfl, ?_⟩
      intro x dx nx ndx ne
      have s4 : Same H (upd (upd H dx (.own x)) x (.ins (He.ga K "Naming") dx [])) := (upd_new ndx).trans (upd_new (by rw [upd_ne (Ne.symm ne)]; exact nx))
      refine ⟨x, dx, pc, pd, who, word, c, b, e, rfl, upd_same, sq_t s4 q2, sq_t s4 q3, ok, fun H5 w5 h5 => ⟨rfl, ?_⟩⟩
      have s5 : Same H H5 := fun b o e => w5 _ _ (ne_of_none e nx) (s4 _ _ e)
      exact k _ H5 s5 ⟨x, dx, pc, pd, rfl, h5, sq_t s5 q2, sq_t s5 q3⟩
    | lev who g t1 t2 b e o =>
      obtain ⟨p, vg, pt, pd, vo, rfl, q1, q2, q3, q4, q5⟩ := hd_lev hv
      obtain ⟨pg, rfl⟩ : ∃ pg, vg = .ref pg := by
        have q2 : Dp K H vg (dSubj g) := q2
        cases g with
        | one c => cases q2 with | tup h _ => exact ⟨_, rfl⟩
        | some k0 cs => cases q2 with | tup h _ => exact ⟨_, rfl⟩
      refine ⟨p, _, _, _, rfl, rfl, q1, rfl, ?_⟩
      walk_at "go"
      refine ⟨rfl, ?_⟩
      walk_at "go"
      refine ⟨p, _, _, _, rfl, rfl, q1, rfl, ?_⟩
      walk_at "go"
      refine ⟨p, _, _, _, rfl, rfl, q1, rfl, ?_⟩
      walk_at "go"
      refine ⟨p, _, _, _, rfl, rfl, q1, rfl, ?_⟩
      walk_at "go"
      refine ⟨p, _, _, _, rfl, rfl, q1, rfl, ?_⟩
      walk_at "go"
      refine ⟨p, _, _, _, rfl, rfl, q1, rfl, ?_⟩
      intro x dx nx ndx ne
      have s4 : Same H (upd (upd H dx (.own x)) x (.ins (He.ga K "Leave") dx [])) := (upd_new ndx).trans (upd_new (by rw [upd_ne (Ne.symm ne)]; exact nx))
      refine ⟨x, dx, pg, pt, pd, vo, who, g, t1, t2, b, e, o, rfl, upd_same, dp_same s4 _ _ q2, sq_t s4 q3, sq_t s4 q4, dp_same s4 _ _ q5, ok, fun H5 w5 h5 => ⟨rfl, ?_⟩⟩
      have s5 : Same H H5 := fun b o e => w5 _ _ (ne_of_none e nx) (s4 _ _ e)
      exact k _ H5 s5 ⟨x, dx, pg, pt, pd, vo, rfl, h5, dp_same s5 _ _ q2, sq_t s5 q3, sq_t s5 q4, dp_same s5 _ _ q5⟩
-- 0 _law_plains; 1 _law_house; 2 _law_plain
theorem cal_book (T : Txt K mg) (hP : PrgOk P) : Cal P w K mg base 8 "_law_book" (spBook K) := by
  have c_law_made : Cal P w K mg base 7 "_law_made" (spMade K) := cal_made T hP
  refine cal_of T.f_law_book T.g_law_book sc_law_book (fun vs H Q E h => ?_) (fun _ _ _ _ _ _ us hl => match us, hl with | [_], _ => rfl) (fun cdv A outer s H vs Q E hr h => ?_)
  · obtain ⟨a, us, xs, rfl, _⟩ := h
    rfl
  · obtain ⟨a, us, xs, rfl, ha, hx, ndx, lx, okx, k⟩ := h
    have nd := sc_law_book.nd
    have lus := hdAll_len hx
    refine ⟨_, 
      (pss_cons (ps_set (i := 1) nd rfl (Or.inl rfl) (pe_makeR0 T.k_Book (m_Book_init T) hr (by rfl) T.g_Book))
      (pss_cons (ps_for PassesOwn.never rfl (pi_list (pv 0)) (pg_name (i := 2) nd rfl (Or.inl rfl)) 
        (pss_one (ps_set (i := 1) nd rfl (Or.inl rfl) (pe_methR (pv 1) T.c_Book T.m_Book_with_more (m_Book_more T) hr (pa_cons (pe_c c_law_made hr (by rfl) (pa_cons (pv 2) pa_nil)) pa_nil)))))
      (pss_one (ps_ret (pv 1))))), ?_⟩
    intro x dx nx ndx' ne
    have s4 : Same H (upd (upd H dx (.own x)) x (.ins (He.ga K "Book") dx [])) := (upd_new ndx').trans (upd_new (by rw [upd_ne (Ne.symm ne)]; exact nx))
    refine ⟨x, dx, [], [], rfl, upd_same, .nil, List.nodup_nil, Nat.zero_le _, fun p hp => absurd hp (by simp), fun H5 w5 B5 => ⟨rfl, ?_⟩⟩
    have s5 : Same H H5 := fun b o e => w5 _ _ (ne_of_none e nx) (s4 _ _ e)
    walk_at "go"
    refine ⟨⟨_, sq_of (s5 _ _ ha)⟩, for_it (walk_list (xs := us)) (fun i σ H' => ∃ (b : Addr) (ws : List V) (o2 : Option V), σ = [some (.ref a), some (.ref b), o2] ∧ Same H H' ∧ BookAt K H' b ws (xs.take i))
      ⟨x, [], _, rfl, s5, B5⟩ (fun i σ H' _ ⟨_, _, _, _, s, _⟩ => sq_of (s _ _ ha)) ?_ ?_⟩
    · rintro i y σ _ H6 hi ⟨b, ws, o2, rfl, s06, B6⟩ ⟨rfl, hy⟩
      obtain ⟨p, hp, hd⟩ := hdAll_at (hx.same s06) hy
      have tk : xs.take (i + 1) = xs.take i ++ [p] := by rw [List.take_add_one, hp, Option.toList_some]
      walk_at "go"
      have B60 := B6
      obtain ⟨dxb, pt, pp, pn, hb, _⟩ := B6
      refine ⟨b, dxb, _, rfl, hb, rfl, ?_⟩
      walk_at "go"
      refine ⟨y, p, rfl, hd, okx p (List.mem_of_getElem? hp), fun v' H7 s7 hst => ?_⟩
      refine ⟨b, [v'], ws, [p], xs.take i, rfl, B60.same s7, ⟨rfl, fun j v e => ?_⟩, ?_, ?_, ?_, List.cons_ne_nil _ _, fun b2 H8 s8 B8 => ?_⟩
      · cases j with
        | zero => cases e; exact ⟨p, rfl, hst⟩
        | succ j => cases e
      · rw [← tk]
        exact ndx.sublist (List.take_sublist _ _)
      · rw [← tk, List.length_take]
        omega
      · rw [← tk]
        exact fun q hq => okx q (List.mem_of_mem_take hq)
      · walk_at "go"
        exact ⟨b2, _, _, rfl, s06.trans (s7.trans s8), by rw [tk]; exact B8⟩
    · rintro σ H6 ⟨b, ws, o2, rfl, s06, B6⟩
      rw [lus, List.take_length] at B6
      walk_at "go"
      exact k b ws H6 s06 B6
end
end NC
-- NcTimes
set_option Elab.async false
set_option linter.all false
set_option maxRecDepth 100000
set_option maxHeartbeats 4000000
namespace NC
local macro_rules | `(tactic| walk_at "go") => `(tactic| (repeat (first
  | (refine ⟨_, rfl, ?_⟩)
  | (refine ⟨_, _, rfl, rfl, ?_⟩)
  | (refine ⟨_, _, rfl, ?_⟩)
  | (refine ⟨_, _, _, rfl, ?_⟩)
  | (refine Or.inl ⟨_, rfl, ?_⟩)
  | (refine iteT ?_)
  | (refine iteF ?_))))
open PySem PySem.Spec PyProof.Rows L2 PySem.W NdefX
theorem walk_enumT {K : PySem.W.Frag} {a : Addr} {xs : List V} : Walk (IteT K a xs) xs.length (fun H => SqT K H a xs) (YPair (fun i => some (.int (i : Nat))) (fun i => xs[i]?)) := by
  refine ⟨fun _ _ hi q => ⟨q, hi⟩, fun _ q => ⟨q, rfl⟩, fun i H v H' _ q y => ?_⟩
  obtain ⟨T, x, h1, h2, h3, h4⟩ := y
  exact ⟨T, .int (i : Nat), x, h1, h2, h3, rfl, h4⟩
section
variable {P : Program} {w : World} {K : PySem.W.Frag} {mg : Str → Option Value} {base : Heap}
theorem m_Book_statements (T : Txt K mg) : MthOk P w K mg base 1 (gAd K (He.ga K "Book") "statements") ["self"] (getSp (He.ga K "Book") "own_statements") := by
  obtain ⟨fd, F⟩ := T.fx 2 (d := x_Book_statements)
  obtain ⟨oc, od, dV, kV, doc, pm, an, cdv, ct, osl, clo, rfl, hc1, lk, hcode⟩ := F.ex
  obtain rfl : clo = [] := List.map_eq_nil_iff.mp hc1
  obtain rfl : dV = .none := by
    have z := T.xf 19 (f := dfgB "Book" "statements" [])
    have lk : K.lookup (gAd K (He.ga K "Book") "statements") = _ := lk
    unfold dfgB at z
    rw [lk] at z
    rcases He.dflB_ok z with ⟨_, e⟩ | ⟨e, _⟩
    · exact e
    · exact absurd rfl e
  exact ⟨_, fn_getter (name := "statements") (qual := "Book.statements") (params := defArgs s_Book_statements) (body := defBody s_Book_statements) (scope := defScope s_Book_statements) (N := ["self"]) (p1 := _) (p2 := _) (p3 := _) lk hcode ⟨rfl, rfl, rfl, by decide +kernel, rfl, by decide +kernel, by decide +kernel⟩ rfl rfl T.c_Book T.a_Book_own_statements, .all fun us hl => match us, hl with | [_], _ => rfl⟩
theorem pe_propM {X : Cx} {k j : Nat} {C p g : Addr} {f : Str} {ps : List Str} {sp : Sp} {e : Expr} {pos : Pos} {ta : TE} (M : MthOk X.prog X.w X.K X.mg X.base k g ps sp) (hr : Room j X.A) (he : PE X e ta) (c : Cls X.K C) (hp : PropOf X.K C f p g) (hk : k + 1 ≤ j := by decide)
    (hab : attributeBase e f X.env (eval e X.env) = eval e X.env := by rfl) : PE X (.Attribute e f pos) (tProp C sp [] E0 ta) := by
  obtain ⟨fd, F, b⟩ := M.ex
  exact pe_prop he c hp F (hr.mono hk) b .nil pass0 hab
end
def RowsAt (K : PySem.W.Frag) (H : Hp) (xs : List Plain) (vs : List V) (ns : List (Nam Str)) : Prop := vs.length = ns.length ∧ ∀ (i : Nat) (v : V), vs[i]? = some v → ∃ n t a b e, ns[i]? = some n ∧ v = .ref t ∧ SqT K H t [.int (n.ix : Int), .ref a] ∧ Stm K H (.ref a) (.nam n.who n.word n.chain b e) ∧ xs[n.ix]? = some (.nam n.who n.word n.chain b e)
theorem RowsAt.same {K : PySem.W.Frag} {H H' : Hp} {xs : List Plain} {vs : List V} {ns : List (Nam Str)} (s : Same H H') (h : RowsAt K H xs vs ns) : RowsAt K H' xs vs ns := ⟨h.1, fun i v e => by obtain ⟨n, t, a, b, e', h1, h2, h3, h4, h5⟩ := h.2 i v e; exact ⟨n, t, a, b, e', h1, h2, sq_t s h3, h4.same s, h5⟩⟩
/-- a list is written -/
theorem Stm.butL {K : PySem.W.Frag} {H H' : Hp} {p : Addr} {ys : List V} {v : V} {n : Plain} (w : But p H H') (hp : H p = some (.lst ys)) (h : Stm K H v n) : Stm K H' v n := by
  cases n with
  | nam who word c b e =>
    obtain ⟨a, dx', pc, pd, rfl, ha, h1, h2⟩ := h
    exact ⟨a, dx', pc, pd, rfl, w _ _ (fun z => by rw [z, hp] at ha; cases ha) ha, bt_t w hp rfl h1, bt_t w hp rfl h2⟩
  | lev who g t1 t2 b e o =>
    obtain ⟨a, dx', pg, pt, pd, vo, rfl, ha, h1, h2, h3, h4⟩ := h
    exact ⟨a, dx', pg, pt, pd, vo, rfl, w _ _ (fun z => by rw [z, hp] at ha; cases ha) ha, dp_butF w hp rfl _ _ (noList_subj g) h1, bt_t w hp rfl h2, bt_t w hp rfl h3, dp_butF w hp rfl _ _ (noList_opt o) h4⟩
theorem RowsAt.put {K : PySem.W.Frag} {H H' : Hp} {xs : List Plain} {vs : List V} {ns : List (Nam Str)} {D t a : Addr} {n : Nam Str} {b e : Int} (w : But D H H') (hD : H D = some (.lst vs)) (h : RowsAt K H xs vs ns) (h1 : SqT K H t [.int (n.ix : Int), .ref a]) (h2 : Stm K H (.ref a) (.nam n.who n.word n.chain b e)) (h3 : xs[n.ix]? = some (.nam n.who n.word n.chain b e)) : RowsAt K H' xs (vs ++ [.ref t]) (ns ++ [n]) := by
  refine ⟨by rw [List.length_append, List.length_append, h.1]; rfl, fun i v ev => ?_⟩
  by_cases hi : i < vs.length
  · rw [List.getElem?_append_left hi] at ev
    obtain ⟨m, t', a', b', e', g1, g2, g3, g4, g5⟩ := h.2 i v ev
    exact ⟨m, t', a', b', e', by rw [List.getElem?_append_left (by rw [← h.1]; exact hi)]; exact g1, g2, bt_t w hD rfl g3, g4.butL w hD, g5⟩
  · rw [List.getElem?_append_right (by omega)] at ev
    have e0 : i - vs.length = 0 := by
      have := (List.getElem?_eq_some_iff.mp ev).1
      rw [List.length_singleton] at this
      omega
    rw [e0] at ev
    cases ev
    exact ⟨n, t, a, b, e, by rw [List.getElem?_append_right (by rw [← h.1]; omega), ← h.1, e0]; rfl, rfl, bt_t w hD rfl h1, h2.butL w hD, h3⟩
/-! ### groups -/
def putG (gs : List Grp) (g : Grp) : List Grp := if (gs.any fun h => decide (h.key = g.key)) = true then gs.map (fun h => if h.key = g.key then g else h) else gs ++ [g]
theorem anyG {gs : List Grp} {g : Grp} : (gs.any fun h => decide (h.key = g.key)) = true ↔ ∃ h ∈ gs, h.key = g.key := by
  rw [List.any_eq_true]
  exact ⟨fun ⟨q, h1, h2⟩ => ⟨q, h1, of_decide_eq_true h2⟩, fun ⟨q, h1, h2⟩ => ⟨q, h1, decide_eq_true h2⟩⟩
theorem putK_grp (gs : List Grp) (g : Grp) : putK (gs.map grpKV) (pk g.key) (V.ref g.at_) = (putG gs g).map grpKV := by
  have ha : ((gs.map grpKV).any fun kv => decide (kv.1 = pk g.key)) = gs.any fun h => decide (h.key = g.key) := by
    rw [List.any_map]
    congr 1
    funext q
    show decide (pk q.key = pk g.key) = decide (q.key = g.key)
    exact decide_eq_decide.mpr ⟨pk_inj, fun e => by rw [e]⟩
  unfold putK putG
  rw [ha]
  split
  · rw [List.map_map, List.map_map]
    refine List.map_congr_left fun q _ => ?_
    show (if pk q.key = pk g.key then (pk q.key, V.ref g.at_) else grpKV q) = grpKV (if q.key = g.key then g else q)
    by_cases h : q.key = g.key
    · rw [if_pos (by rw [h]), if_pos h, h]
      rfl
    · rw [if_neg (fun e => h (pk_inj e)), if_neg h]
  · rw [List.map_append]
    rfl
theorem mem_putG {gs : List Grp} {g h : Grp} : h ∈ putG gs g ↔ h = g ∨ (h ∈ gs ∧ h.key ≠ g.key) := by
  unfold putG
  split
  · rename_i ha
    obtain ⟨h0, hh0, hk0⟩ := anyG.mp ha
    rw [List.mem_map]
    constructor
    · rintro ⟨q, hq, rfl⟩
      by_cases e : q.key = g.key
      · rw [if_pos e]
        exact .inl rfl
      · rw [if_neg e]
        exact .inr ⟨hq, e⟩
    · rintro (rfl | ⟨hq, e⟩)
      · exact ⟨h0, hh0, if_pos hk0⟩
      · exact ⟨h, hq, if_neg e⟩
  · rename_i ha
    rw [List.mem_append, List.mem_singleton]
    constructor
    · rintro (hq | e)
      · exact .inr ⟨hq, fun e => ha (anyG.mpr ⟨h, hq, e⟩)⟩
      · exact .inl e
    · rintro (e | ⟨hq, _⟩)
      · exact .inr e
      · exact .inl hq
theorem putG_nd {gs : List Grp} {g : Grp} (nd : (gs.map (·.key)).Nodup) : ((putG gs g).map (·.key)).Nodup := by
  unfold putG
  split
  · have e : (gs.map fun h => if h.key = g.key then g else h).map (·.key) = gs.map (·.key) := by
      rw [List.map_map]
      refine List.map_congr_left fun q _ => ?_
      show (if q.key = g.key then g else q).key = q.key
      by_cases h : q.key = g.key
      · rw [if_pos h, h]
      · rw [if_neg h]
    rw [e]
    exact nd
  · rename_i ha
    rw [List.map_append]
    refine List.nodup_append.mpr ⟨nd, by simp, fun a h1 b h2 e => ?_⟩
    obtain ⟨q, hq, rfl⟩ := List.mem_map.mp h1
    rw [List.map_cons, List.map_nil, List.mem_singleton] at h2
    exact ha (anyG.mpr ⟨q, hq, e.trans h2⟩)
theorem putG_len {gs : List Grp} {g : Grp} {i : Nat} (h : gs.length ≤ i) : (putG gs g).length ≤ i + 1 := by
  unfold putG
  split
  · rw [List.length_map]
    omega
  · rw [List.length_append]
    exact Nat.succ_le_succ h
theorem putG_ns {gs : List Grp} {g : Grp} {i : Nat} (h : ∀ q ∈ gs, q.ns.length ≤ i) (hg : g.ns.length ≤ i + 1) : ∀ q ∈ putG gs g, q.ns.length ≤ i + 1 := fun q hq => by
  rcases mem_putG.mp hq with rfl | ⟨hq, _⟩
  · exact hg
  · exact Nat.le_succ_of_le (h q hq)
theorem valV_grp_none {gs : List Grp} {k : Str × Str} (h : ∀ g ∈ gs, g.key ≠ k) : valV (gs.map grpKV) (pk k) = none := by
  induction gs with
  | nil => rfl
  | cons g gs ih =>
    rw [List.map_cons, valV_neg (p := grpKV g) (fun e => h g List.mem_cons_self (pk_inj e)), ih fun q hq => h q (List.mem_cons_of_mem _ hq)]
theorem namedG_put {K : PySem.W.Frag} {H H' : Hp} {q VB : Addr} {kvs : List (List Key × V)} {gs : List Grp} {ms ms' ms0 : List (Nam Str)} {n : Nam Str} {i : Nat} (w : But q H H') (hq : H q = some (.dT kvs)) (N : NamedG K H gs ms) (hv : Dp K H (.ref VB) (.tuple ((ms0 ++ [n]).map dNam)))
    (c : (ms0 = [] ∧ ∀ g ∈ gs, g.key ≠ (n.who, n.word)) ∨ ∃ g ∈ gs, g.key = (n.who, n.word) ∧ ms0 = g.ns) (e : ms ++ [n] = ms') (okn : n.chain ≠ [] ∧ n.chain.length ≤ 20) (hi : i < 24 := by omega) (lg : gs.length ≤ i) (ln : ∀ g ∈ gs, g.ns.length ≤ i) : NamedG K H' (putG gs ⟨(n.who, n.word), VB, ms0 ++ [n]⟩) ms' := by
  have lm0 : ms0.length ≤ i := by
    rcases c with ⟨rfl, _⟩ | ⟨g, hg, _, rfl⟩
    · exact Nat.zero_le _
    · exact ln g hg
  refine ⟨fun g hg => ?_, putG_nd N.nd, fun g hg m hm => ?_, fun m => ?_, fun g hg => ?_, fun m hm => ?_, Nat.le_trans (putG_len lg) (by omega), fun g hg => Nat.le_trans (putG_ns ln (by rw [List.length_append]; exact Nat.succ_le_succ lm0) g hg) (by omega)⟩
  · rcases mem_putG.mp hg with rfl | ⟨h1, _⟩
    · exact dp_butF w hq rfl _ _ (noList_nams (ms0 ++ [n])) hv
    · exact dp_butF w hq rfl _ _ (noList_nams g.ns) (N.val g h1)
  · rcases mem_putG.mp hg with rfl | ⟨h1, _⟩
    · rcases List.mem_append.mp hm with hm | hm
      · rcases c with ⟨rfl, _⟩ | ⟨g2, hg2, hk, rfl⟩
        · cases hm
        · rw [← hk]
          exact N.own g2 hg2 m hm
      · rw [List.mem_singleton.mp hm]
    · exact N.own g h1 m hm
  · rw [← e, List.mem_append, List.mem_singleton, N.all m]
    constructor
    · rintro (⟨g, hg, hm⟩ | rfl)
      · by_cases hk : g.key = (n.who, n.word)
        · rcases c with ⟨_, no⟩ | ⟨g2, hg2, hk2, rfl⟩
          · exact absurd hk (no g hg)
          · rw [key_inj N.nd hg hg2 (hk.trans hk2.symm)] at hm
            exact ⟨_, mem_putG.mpr (.inl rfl), List.mem_append_left _ hm⟩
        · exact ⟨g, mem_putG.mpr (.inr ⟨hg, hk⟩), hm⟩
      · exact ⟨_, mem_putG.mpr (.inl rfl), List.mem_append_right _ List.mem_cons_self⟩
    · rintro ⟨g, hg, hm⟩
      rcases mem_putG.mp hg with rfl | ⟨h1, _⟩
      · rcases List.mem_append.mp hm with hm | hm
        · rcases c with ⟨rfl, _⟩ | ⟨g2, hg2, hk, rfl⟩
          · cases hm
          · exact .inl ⟨g2, hg2, hm⟩
        · exact .inr (List.mem_singleton.mp hm)
      · exact .inl ⟨g, h1, hm⟩
  · rcases mem_putG.mp hg with rfl | ⟨h1, _⟩
    · intro z
      have z : ms0 ++ [n] = [] := z
      simp at z
    · exact N.ne g h1
  · rw [← e] at hm
    rcases List.mem_append.mp hm with hm | hm
    · exact N.chn m hm
    · rw [List.mem_singleton.mp hm]
      exact okn
def spNamingsOf (K : PySem.W.Frag) : Sp := fun vs H Q _ => ∃ (bk : Addr) (us : List V) (xs : List Plain), vs = [.ref bk] ∧ BookAt K H bk us xs ∧ xs.length ≤ 24 ∧ ∀ q ws ns H', Same H H' → H q = none → H' q = some (.lst ws) → RowsAt K H' xs ws ns → (∀ n, n ∈ ns ↔ n ∈ nams (fun _ => true) xs) → ns.length ≤ xs.length → Q (.ref q) H'
def spNamedBy (K : PySem.W.Frag) : Sp := fun vs H Q _ => ∃ (r : Addr) (ws : List V) (xs : List Plain) (ns : List (Nam Str)), vs = [.ref r] ∧ H r = some (.lst ws) ∧ RowsAt K H xs ws ns ∧ ns.length ≤ 24 ∧ (∀ n ∈ ns, n.chain ≠ [] ∧ n.chain.length ≤ 20) ∧ ∀ d gs H', Same H H' → NamedT K H' d gs ns → gs.length ≤ ns.length → Q (.ref d) H'
abbrev NN_namings_of : List Str := ["book", "place", "one"]
theorem sc_namings_of : FnScope NN_namings_of ["book"] (defScope s_namings_of) := ⟨rfl, rfl, rfl, by decide +kernel, rfl, by decide +kernel, by decide +kernel⟩
abbrev NN_named_by : List Str := ["rows", "found", "place", "one", "pair"]
theorem sc_named_by : FnScope NN_named_by ["rows"] (defScope s_named_by) := ⟨rfl, rfl, rfl, by decide +kernel, rfl, by decide +kernel, by decide +kernel⟩
section
variable {P : Program} {w : World} {K : PySem.W.Frag} {mg : Str → Option Value} {base : Heap}
-- 0 book; 1 place; 2 one
theorem cal_namings_of (T : Txt K mg) : Cal P w K mg base 3 "namings_of" (spNamingsOf K) := by
  refine cal_of T.f_namings_of T.g_namings_of sc_namings_of (fun vs H Q E h => ?_) (fun _ _ _ _ _ _ us hl => match us, hl with | [_], _ => rfl) (fun cdv A outer s H vs Q E hr h => ?_)
  · obtain ⟨bk, us, xs, rfl, _⟩ := h
    rfl
  · obtain ⟨bk, us, xs, rfl, B, lx, k⟩ := h
    have nd := sc_namings_of.nd
    obtain ⟨dx, pt, pp, pn, hb, hpt, hs⟩ := B
    have lus := hs.1
    refine ⟨_, 
      (pss_one (ps_ret (pe_lc (own := [("place", 1), ("one", 2)]) rfl nd (pi_enumT (by rfl) T.n_enumerate (pa_cons (pe_propM (m_Book_statements T) hr (pv 0) T.c_Book (propB_ok (T.xf 0 (f := propB "Book" "statements"))) (by decide)) pa_nil)) (blkOk_by (N := NN_namings_of) (sc := defScope s_namings_of) (by decide +kernel)) (fun _ _ _ _ _ => (show PG _ _ (gTup K 2 _) from (pg_tup rfl (pgs_cons (pg_name (i := 1) nd rfl (Or.inl rfl)) (pgs_cons (pg_name (i := 2) nd rfl (Or.inl rfl)) pgs_nil))))) (fun _ _ _ _ _ => (pts_one (pt_val (bB (call_isiK2 (K := K)) T.n_isinstance (pa_cons (pv 2) (pa_cons (pe_glob (v := .ref (He.ga K "Naming")) (by rfl) T.g_Naming rfl) pa_nil)))))) (fun _ _ _ _ _ => (pe_tup (pa_cons (pv 1) (pa_cons (pv 2) pa_nil))))))), ?_⟩
    walk_at "go"
    refine ⟨bk, dx, _, rfl, hb, ?_⟩
    refine ⟨bk, dx, _, _, rfl, hb, rfl, ?_⟩
    refine ⟨pt, us, rfl, hpt, fun D nD => ?_⟩
    refine lc_it walk_enumT (fun i H' => But D H H' ∧ ∃ ws, H' D = some (.lst ws) ∧ RowsAt K H' xs ws (nams (fun _ => true) (xs.take i)) ∧ (nams (fun _ => true) (xs.take i)).length ≤ i) ⟨upd_but, [], upd_same, ⟨rfl, fun i v e => by simp at e⟩, Nat.le_refl _⟩ (fun i H' _ ⟨w, _⟩ => sq_t (But.new (Same.refl H) w nD) hpt) ?_ ?_
    · rintro i y H1 H2 hi ⟨w1, ws, hD, R, lr⟩ ⟨T', x', y', rfl, nT, e2, hx', hy'⟩
      dsimp only at hx' hy'
      cases hx'
      have s12 : Same H1 H2 := by rw [e2]; exact upd_new nT
      have hT : H2 T' = some (.tup [.int (i : Int), y']) := by rw [e2]; exact upd_same
      have s01 : Same H H1 := But.new (Same.refl H) w1 nD
      have s02 := s01.trans s12
      have hD2 := s12 _ _ hD
      obtain ⟨p, hp, hst⟩ := (hs.same s02).2 i y' hy'
      have tk : xs.take (i + 1) = xs.take i ++ [p] := by rw [List.take_add_one, hp, Option.toList_some]
      have lti : (xs.take i).length = i := by rw [List.length_take]; omega
      have nm : nams (fun _ => true) (xs.take (i + 1)) = nams (fun _ => true) (xs.take i) ++ namsFrom (fun _ => true) i [p] := by
        unfold nams
        rw [tk, namsFrom_snoc, Nat.zero_add, lti]
      refine ⟨T', _, rfl, st_of hT, rfl, ?_⟩
      refine ⟨_, _, rfl, ?_⟩
      refine ⟨_, _, rfl, ?_⟩
      refine ⟨rfl, ?_⟩
      refine ⟨rfl, ?_⟩
      walk_at "go"
      cases p with
      | nam who word c b e =>
        refine ⟨_, _, _, _, _, rfl, .own _, stm_ty T hst, kit_nn T, ?_⟩
        obtain ⟨a, rfl⟩ := stm_ref hst
        walk_at "go"
        refine ⟨by show 2 ≤ sizeLine; decide, fun t nt => kNew nt fun H3 s3 ht => ?_⟩
        have hD3 := s3 _ _ hD2
        have en : namsFrom (fun _ => true) i [Plain.nam who word c b e] = [⟨i, who, word, c⟩] := rfl
        have lw := R.1
        refine ⟨ws, hD3, sz_lt (by omega), (w1.same (s12.trans s3)).trans upd_but, ws ++ [.ref t], upd_same, ?_, ?_⟩
        · rw [nm, en]
          exact (R.same (s12.trans s3)).put (n := ⟨i, who, word, c⟩) upd_but hD3 (st_of ht) (hst.same s3) hp
        · rw [nm, en, List.length_append]
          exact Nat.succ_le_succ lr
      | lev who g t1 t2 b e o =>
        refine ⟨_, _, _, _, _, rfl, .own _, stm_ty T hst, kit_ln T, ?_⟩
        walk_at "go"
        have en : namsFrom (fun _ => true) i [Plain.lev who g t1 t2 b e o] = [] := rfl
        exact ⟨w1.same s12, ws, hD2, by rw [nm, en, List.append_nil]; exact R.same s12, by rw [nm, en, List.append_nil]; omega⟩
    · rintro H1 ⟨w1, ws, hD, R, lr⟩
      rw [lus, List.take_length] at R lr
      walk_at "go"
      exact k D ws _ H1 (But.new (Same.refl H) w1 nD) nD hD R (fun n => Iff.rfl) (by omega)
-- 0 rows; 1 found; 2 place; 3 one; 4 pair
theorem cal_named_by (T : Txt K mg) : Cal P w K mg base 1 "named_by" (spNamedBy K) := by
  refine cal_of T.f_named_by T.g_named_by sc_named_by (fun vs H Q E h => ?_) (fun _ _ _ _ _ _ us hl => match us, hl with | [_], _ => rfl) (fun cdv A outer s H vs Q E hr h => ?_)
  · obtain ⟨r, ws, xs, ns, rfl, _⟩ := h
    rfl
  · obtain ⟨r, ws, xs, ns, rfl, hr0, R, ln, okc, k⟩ := h
    have nd := sc_named_by.nd
    have hu := hu_of hr
    have lws := R.1
    refine ⟨_, 
      (pss_cons (ps_set (i := 1) nd rfl (Or.inl rfl) pe_dnewT)
      (pss_cons (ps_for PassesOwn.never rfl (pi_list (pv 0)) (pg_tup rfl (pgs_cons (pg_name (i := 2) nd rfl (Or.inl rfl)) (pgs_cons (pg_name (i := 3) nd rfl (Or.inl rfl)) pgs_nil))) 
        (pss_cons (ps_set (i := 4) nd rfl (Or.inl rfl) (pe_tup (pa_cons (pe_fld (pv 3) rfl) (pa_cons (pe_fld (pv 3) rfl) pa_nil))))
        (pss_one (ps_dput hu (pv 1) (pv 4) (pe_op op_catA (pe_dget2 hu (pv 1) (pv 4) (pe_tup pa_nil) ⟨by rfl, by rfl, by rfl, by rfl⟩) (pe_tup (pa_cons (pe_tup (pa_cons (pv 2) (pa_cons (pe_fld (pv 3) rfl) pa_nil))) pa_nil))) rfl))))
      (pss_one (ps_ret (pv 1))))), ?_⟩
    walk_at "go"
    refine (fun q nq => kNew nq fun H1 s1 hq => ?_)
    walk_at "go"
    refine ⟨⟨_, sq_of (s1 _ _ hr0)⟩, for_it (walk_list (xs := ws)) (fun i σ H' => ∃ (gs : List Grp) (o2 o3 o4 : Option V), σ = [some (.ref r), some (.ref q), o2, o3, o4] ∧ But q H1 H' ∧ NamedT K H' q gs (ns.take i) ∧ gs.length ≤ i ∧ ∀ g ∈ gs, g.ns.length ≤ i)
      ⟨[], _, _, _, rfl, But.refl _ _, ⟨hq, ⟨by simp, List.nodup_nil, by simp, by simp, by simp, by simp, Nat.zero_le _, by simp⟩⟩, Nat.zero_le _, by simp⟩ (fun i σ H' _ ⟨_, _, _, _, _, w, _⟩ => sq_of ((But.new s1 w nq) _ _ hr0)) ?_ ?_⟩
    · rintro i y σ _ H2 hi ⟨gs, o2, o3, o4, rfl, w2, N2, lgs, lns⟩ ⟨rfl, hy⟩
      have s02 : Same H H2 := But.new s1 w2 nq
      obtain ⟨n, t, a, b, e, hn, rfl, ht, hst, hx⟩ := (R.same s02).2 i y hy
      have tk : ns.take (i + 1) = ns.take i ++ [n] := by rw [List.take_add_one, hn, Option.toList_some]
      have okn := okc n (List.mem_of_getElem? hn)
      obtain ⟨a', dx, pc, pd, ea, ha, hpc, hpd⟩ := hst
      cases ea
      refine ⟨t, _, rfl, ht, rfl, ?_⟩
      refine ⟨_, _, rfl, ?_⟩
      refine ⟨_, _, rfl, ?_⟩
      refine ⟨rfl, ?_⟩
      walk_at "go"
      refine ⟨a, _, dx, _, _, rfl, ha, T.c_Naming, T.a_Naming_own_person, rfl, ?_⟩
      walk_at "go"
      refine ⟨a, _, dx, _, _, rfl, ha, T.c_Naming, T.a_Naming_own_name, rfl, ?_⟩
      walk_at "go"
      refine ⟨by show 2 ≤ sizeLine; decide, fun pa npa => kNew npa fun H3 s3 hpa => ?_⟩
      have hpa : H3 pa = some (.tup ((pk (n.who, n.word)).map kV)) := hpa
      walk_at "go"
      refine ⟨.inr ⟨_, .inl (s3 _ _ N2.at_)⟩, ?_⟩
      walk_at "go"
      refine ⟨Nat.zero_le _, fun e0 ne0 => kNew ne0 fun H4 s4 he0 => ?_⟩
      have s24 := s3.trans s4
      have hq4 := s24 _ _ N2.at_
      have hpa4 := s4 _ _ hpa
      refine ⟨_, DGet.t hq4 hpa4, ?_⟩
      have N4 := N2.g.same s24
      obtain ⟨va, us0, ms0, ev, hva, hus0, lm0, cases0⟩ : ∃ (va : Addr) (us0 : List V) (ms0 : List (Nam Str)), (valV (gs.map grpKV) (pk (n.who, n.word))).getD (.ref e0) = .ref va ∧ SqT K H4 va us0 ∧ DpAll K H4 us0 (ms0.map dNam) ∧ ms0.length ≤ i ∧ ((ms0 = [] ∧ ∀ g ∈ gs, g.key ≠ (n.who, n.word)) ∨ ∃ g ∈ gs, g.key = (n.who, n.word) ∧ ms0 = g.ns) := by
        by_cases hg : ∃ g ∈ gs, g.key = (n.who, n.word)
        · obtain ⟨g, hg, hk⟩ := hg
          obtain ⟨us, h1, h2⟩ := dp_rows (N4.val g hg)
          exact ⟨g.at_, us, g.ns, by rw [← hk, valV_grp N4.nd hg]; rfl, h1, h2, lns g hg, .inr ⟨g, hg, hk, rfl⟩⟩
        · refine ⟨e0, [], [], ?_, st_of he0, .nil, Nat.zero_le _, .inl ⟨rfl, fun g h1 h2 => hg ⟨g, h1, h2⟩⟩⟩
          rw [valV_grp_none fun g h1 h2 => hg ⟨g, h1, h2⟩]
          rfl
      have lus0 := dpAll_len hus0
      rw [ev]
      walk_at "go"
      refine ⟨a, _, dx, _, _, rfl, s24 _ _ ha, T.c_Naming, T.a_Naming_own_chain, rfl, ?_⟩
      walk_at "go"
      refine ⟨by show 2 ≤ sizeLine; decide, fun t1 nt1 => kNew nt1 fun H5 s5 ht1 => ?_⟩
      walk_at "go"
      refine ⟨by show 1 ≤ sizeLine; decide, fun t2 nt2 => kNew nt2 fun H6 s6 ht2 => ?_⟩
      have s46 := s5.trans s6
      have hn16 : Dp K H6 (.ref t1) (dNam n) := .tup (st_of (s6 _ _ ht1)) (.cons (.int _) (.cons (dp_chain0 (sq_t (s24.trans s46) hpc)) .nil))
      refine ⟨va, t2, us0, [.ref t1], rfl, rfl, sq_t s46 hva, st_of ht2, Nat.le_of_lt (sz_lt (by show us0.length + 1 < 1000000; omega)), fun h => ?_, (fun _ h => by cases h), fun _ _ pv npv => kNew npv fun H7 s7 hpv => ?_⟩
      · have hvb : SqT K H6 t2 (us0 ++ [.ref t1]) := by
          rw [h]
          exact st_of ht2
        have hqH := s46 _ _ hq4
        have hpH := s46 _ _ hpa4
        have s2H := s24.trans s46
        have sall := s46
        have hn1 := hn16
        have NG := N4.same s46

        have hvb2 : Dp K H6 (.ref t2) (.tuple ((ms0 ++ [n]).map dNam)) := by
          rw [List.map_append]
          exact .tup hvb (dpAll_app (dpAll_same sall hus0) (.cons hn1 .nil))
        walk_at "go"
        refine ⟨q, _, rfl, DPut.t (k := pk (n.who, n.word)) hqH hpH (sz_lt (by rw [List.length_map]; omega)), kPut fun HJ wJ hJ => ?_⟩
        walk_at "go"
        rw [putK_grp gs ⟨(n.who, n.word), t2, ms0 ++ [n]⟩] at hJ
        have G := namedG_put (i := i) wJ hqH NG hvb2 cases0 (show ns.take i ++ [n] = ns.take (i + 1) from tk.symm) okn (by omega) lgs lns
        exact ⟨putG gs ⟨(n.who, n.word), t2, ms0 ++ [n]⟩, _, _, _, rfl, (w2.same s2H).trans wJ, ⟨hJ, G⟩, putG_len lgs, putG_ns lns (by rw [List.length_append]; exact Nat.succ_le_succ lm0)⟩
      · have hvb : SqT K H7 pv (us0 ++ [.ref t1]) := st_of hpv
        have hqH := (s46.trans s7) _ _ hq4
        have hpH := (s46.trans s7) _ _ hpa4
        have s2H := s24.trans (s46.trans s7)
        have sall := s46.trans s7
        have hn1 := dp_same s7 _ _ hn16
        have NG := N4.same (s46.trans s7)

        have hvb2 : Dp K H7 (.ref pv) (.tuple ((ms0 ++ [n]).map dNam)) := by
          rw [List.map_append]
          exact .tup hvb (dpAll_app (dpAll_same sall hus0) (.cons hn1 .nil))
        walk_at "go"
        refine ⟨q, _, rfl, DPut.t (k := pk (n.who, n.word)) hqH hpH (sz_lt (by rw [List.length_map]; omega)), kPut fun HJ wJ hJ => ?_⟩
        walk_at "go"
        rw [putK_grp gs ⟨(n.who, n.word), pv, ms0 ++ [n]⟩] at hJ
        have G := namedG_put (i := i) wJ hqH NG hvb2 cases0 (show ns.take i ++ [n] = ns.take (i + 1) from tk.symm) okn (by omega) lgs lns
        exact ⟨putG gs ⟨(n.who, n.word), pv, ms0 ++ [n]⟩, _, _, _, rfl, (w2.same s2H).trans wJ, ⟨hJ, G⟩, putG_len lgs, putG_ns lns (by rw [List.length_append]; exact Nat.succ_le_succ lm0)⟩
    · rintro σ H2 ⟨gs, o2, o3, o4, rfl, w2, N2, lgs, lns⟩
      rw [lws, List.take_length] at N2
      rw [lws] at lgs
      walk_at "go"
      exact k q gs H2 (But.new s1 w2 nq) N2 lgs
end
end NC
-- NcTimes2
set_option Elab.async false
set_option linter.all false
set_option maxRecDepth 100000
set_option maxHeartbeats 4000000
namespace NC
local macro_rules | `(tactic| walk_at "go") => `(tactic| (repeat (first
  | (refine ⟨_, rfl, ?_⟩)
  | (refine ⟨_, _, rfl, rfl, ?_⟩)
  | (refine ⟨_, _, rfl, ?_⟩)
  | (refine ⟨_, _, _, rfl, ?_⟩)
  | (refine Or.inl ⟨_, rfl, ?_⟩)
  | (refine iteT ?_)
  | (refine iteF ?_))))
open PySem PySem.Spec PyProof.Rows L2 PySem.W NdefX
theorem NamedT.congr {K : PySem.W.Frag} {H : Hp} {d : Addr} {gs : List Grp} {ms ms' : List (Nam Str)} (h : NamedT K H d gs ms) (e : ∀ n, n ∈ ms ↔ n ∈ ms') : NamedT K H d gs ms' :=
  ⟨h.at_, { h.g with all := fun n => (e n).symm.trans (h.g.all n), chn := fun n hn => h.g.chn n ((e n).mpr hn) }⟩
def spNamedOn (K : PySem.W.Frag) (all : Bool) : Sp := fun vs H Q _ => ∃ (bk t : Addr) (us : List V) (xs : List Plain) (b e : Int), vs = [.ref bk, .ref t] ∧ BookAt K H bk us xs ∧ xs.length ≤ 24 ∧ SqT K H t [.int b, .int e] ∧ b ≤ e ∧ (∀ p ∈ xs, PlainOk p) ∧
  ∀ d gs H', Same H H' → NamedT K H' d gs (nams (hold all b e) xs) → gs.length ≤ xs.length → Q (.ref d) H'
abbrev NN_named_on_all : List Str := ["book", "stretch", "first", "last", "place", "one"]
theorem sc_named_on_all : FnScope NN_named_on_all ["book", "stretch"] (defScope s_named_on_all) := ⟨rfl, rfl, rfl, by decide +kernel, rfl, by decide +kernel, by decide +kernel⟩
abbrev NN_named_on_some : List Str := ["book", "stretch", "first", "last", "place", "one"]
theorem sc_named_on_some : FnScope NN_named_on_some ["book", "stretch"] (defScope s_named_on_some) := ⟨rfl, rfl, rfl, by decide +kernel, rfl, by decide +kernel, by decide +kernel⟩
section
variable {P : Program} {w : World} {K : PySem.W.Frag} {mg : Str → Option Value} {base : Heap}
-- 0 book; 1 stretch; 2 first; 3 last; 4 place; 5 one
theorem cal_named_on_all (T : Txt K mg) : Cal P w K mg base 4 "named_on_all" (spNamedOn K true) := by
  have c_namings_of : Cal P w K mg base 3 "namings_of" (spNamingsOf K) := cal_namings_of T
  have c_named_by : Cal P w K mg base 1 "named_by" (spNamedBy K) := cal_named_by T
  refine cal_of T.f_named_on_all T.g_named_on_all sc_named_on_all (fun vs H Q E h => ?_) (fun _ _ _ _ _ _ us hl => match us, hl with | [_, _], _ => rfl) (fun cdv A outer s H vs Q E hr h => ?_)
  · obtain ⟨bk, t, us, xs, b, e, rfl, _⟩ := h
    rfl
  · obtain ⟨bk, t, us, xs, b, e, rfl, B, lx, ht, be, okx, k⟩ := h
    have nd := sc_named_on_all.nd
    refine ⟨_, 
      (pss_cons (ps_asg (pv 1) (pg_tup rfl (pgs_cons (pg_name (i := 2) nd rfl (Or.inr rfl)) (pgs_cons (pg_name (i := 3) nd rfl (Or.inr rfl)) pgs_nil))))
      (pss_one (ps_ret (pe_c c_named_by hr (by rfl) (pa_cons (pe_lc (own := [("place", 4), ("one", 5)]) rfl nd (pi_list (pe_c c_namings_of hr (by rfl) (pa_cons (pv 0) pa_nil))) (blkOk_by (N := NN_named_on_all) (sc := defScope s_named_on_all) (by decide +kernel)) (fun _ _ _ _ _ => (show PG _ _ (gTup K 2 _) from (pg_tup rfl (pgs_cons (pg_name (i := 4) nd rfl (Or.inl rfl)) (pgs_cons (pg_name (i := 5) nd rfl (Or.inl rfl)) pgs_nil))))) (fun _ _ _ _ _ => (pts_one (PW.pt (pw_and (pt_cmpR op_le (pe_ix (show IxR _ (rIxT K) from ix_tup) (show PE _ _ (tFld K _ "own_days") from (pe_fld (pv 5) rfl)) pe_int (fun _ _ => rfl)) (pv 2) (nomark _)) (pw_and1 (pt_cmpR op_le (pv 3) (pe_ix (show IxR _ (rIxT K) from ix_tup) (show PE _ _ (tFld K _ "own_days") from (pe_fld (pv 5) rfl)) pe_int (fun _ _ => rfl)) (nomark _))))))) (fun _ _ _ _ _ => (pe_tup (pa_cons (pv 4) (pa_cons (pv 5) pa_nil))))) pa_nil))))), ?_⟩
    walk_at "go"
    refine ⟨t, _, rfl, ht, rfl, ?_⟩
    refine ⟨_, _, rfl, ?_⟩
    refine ⟨_, _, rfl, ?_⟩
    refine ⟨rfl, ?_⟩
    walk_at "go"
    refine ⟨bk, us, xs, rfl, B, lx, fun q ws ns H1 s1 nq hq R mem ln => ?_⟩
    have lws := R.1
    refine ⟨q, rfl, ⟨_, sq_of hq⟩, fun D nD => ?_⟩
    have nqD : q ≠ D := ne_of_none hq nD
    refine lc_it (walk_list (xs := ws)) (fun i H' => But D H1 H' ∧ ∃ vs ms, H' D = some (.lst vs) ∧ RowsAt K H' xs vs ms ∧ ms.length ≤ i ∧ ∀ n, n ∈ ms ↔ n ∈ ns.take i ∧ n ∈ nams (hold true b e) xs) ⟨upd_but, [], [], upd_same, ⟨rfl, fun i v e => by simp at e⟩, Nat.le_refl _, by simp⟩ (fun i H' _ ⟨w, _⟩ => sq_of (w _ _ nqD hq)) ?_ ?_
    · rintro i y _ H2 hi ⟨w2, vs, ms, hD, R2, lm, mem2⟩ ⟨rfl, hy⟩
      have s12 : Same H1 H2 := But.new (Same.refl H1) w2 nD
      obtain ⟨n, tt, a, b0, e0, hn, rfl, htt, hst, hx⟩ := (R.same s12).2 i y hy
      have tk : ns.take (i + 1) = ns.take i ++ [n] := by rw [List.take_add_one, hn, Option.toList_some]
      have hst0 := hst
      obtain ⟨a', dx, pc, pd, ea, ha, hpc, hpd⟩ := hst
      cases ea
      have lvs := R2.1
      have yes : hold true b e (.nam n.who n.word n.chain b0 e0) = true → ∀ m, m ∈ ms ++ [n] ↔ m ∈ ns.take (i + 1) ∧ m ∈ nams (hold true b e) xs := fun hh m => by
        rw [tk, List.mem_append, List.mem_append, List.mem_singleton, mem2 m]
        constructor
        · rintro (⟨h1, h2⟩ | rfl)
          · exact ⟨.inl h1, h2⟩
          · exact ⟨.inr rfl, mem_nams.mpr ⟨b0, e0, hx, hh⟩⟩
        · rintro ⟨h1 | h1, h2⟩
          · exact .inl ⟨h1, h2⟩
          · exact .inr h1
      have no : ¬ hold true b e (.nam n.who n.word n.chain b0 e0) = true → ∀ m, m ∈ ms ↔ m ∈ ns.take (i + 1) ∧ m ∈ nams (hold true b e) xs := fun hh m => by
        rw [tk, List.mem_append, List.mem_singleton, mem2 m]
        constructor
        · rintro ⟨h1, h2⟩
          exact ⟨.inl h1, h2⟩
        · rintro ⟨h1 | rfl, h2⟩
          · exact ⟨h1, h2⟩
          · obtain ⟨b1, e1, h3, h4⟩ := mem_nams.mp h2
            rw [hx] at h3
            cases h3
            exact absurd h4 hh
      refine ⟨tt, _, rfl, htt, rfl, ?_⟩
      refine ⟨_, _, rfl, ?_⟩
      refine ⟨_, _, rfl, ?_⟩
      refine ⟨rfl, ?_⟩
      refine ⟨rfl, ?_⟩
      walk_at "go"
      refine ⟨a, _, dx, _, _, rfl, ha, T.c_Naming, T.a_Naming_own_days, rfl, ?_⟩
      walk_at "go"
      refine ⟨pd, _, _, _, rfl, rfl, hpd, rfl, ?_⟩
      walk_at "go"
      refine iteD (fun c1 => ?_) (fun c1 => ?_)
      · walk_at "go"
        refine ⟨a, _, dx, _, _, rfl, ha, T.c_Naming, T.a_Naming_own_days, rfl, ?_⟩
        walk_at "go"
        refine ⟨pd, _, _, _, rfl, rfl, hpd, rfl, ?_⟩
        walk_at "go"
        refine iteD (fun c2 => ?_) (fun c2 => ?_)
        · walk_at "go"
          refine ⟨by show 2 ≤ sizeLine; decide, fun t2 nt2 => kNew nt2 fun H3 s3 ht2 => ?_⟩
          have hD3 := s3 _ _ hD
          refine ⟨vs, hD3, sz_lt (by omega), (w2.same s3).trans upd_but, vs ++ [.ref t2], ms ++ [n], upd_same, (R2.same s3).put upd_but hD3 (st_of ht2) (hst0.same s3) hx, by rw [List.length_append]; exact Nat.succ_le_succ lm, yes (by simp [hold]; omega)⟩
        · walk_at "go"
          exact ⟨w2, vs, ms, hD, R2, by omega, no (by simp [hold]; omega)⟩
      · walk_at "go"
        exact ⟨w2, vs, ms, hD, R2, by omega, no (by simp [hold]; omega)⟩
    · rintro H2 ⟨w2, vs, ms, hD, R2, lm, mem2⟩
      have s12 : Same H1 H2 := But.new (Same.refl H1) w2 nD
      rw [lws] at lm
      rw [lws, List.take_length] at mem2
      have mm : ∀ n, n ∈ ms ↔ n ∈ nams (hold true b e) xs := fun n => (mem2 n).trans ⟨fun h => h.2, fun h => ⟨(mem n).mpr (by
        obtain ⟨b1, e1, h3, _⟩ := mem_nams.mp h
        exact mem_nams.mpr ⟨b1, e1, h3, rfl⟩), h⟩⟩
      walk_at "go"
      refine ⟨D, vs, xs, ms, rfl, hD, R2, by omega, fun n hn => ?_, fun d gs H3 s3 N lg => ?_⟩
      · obtain ⟨b1, e1, h3, _⟩ := mem_nams.mp ((mm n).mp hn)
        have ok := (okx _ (List.mem_of_getElem? h3)).2.2.1
        exact ⟨fun z => by (have := ok.1; rw [z] at this; cases this), by have := ok.2.1; omega⟩
      · exact k d gs H3 ((s1.trans s12).trans s3) (N.congr mm) (by omega)
-- 0 book; 1 stretch; 2 first; 3 last; 4 place; 5 one
theorem cal_named_on_some (T : Txt K mg) : Cal P w K mg base 4 "named_on_some" (spNamedOn K false) := by
  have c_namings_of : Cal P w K mg base 3 "namings_of" (spNamingsOf K) := cal_namings_of T
  have c_named_by : Cal P w K mg base 1 "named_by" (spNamedBy K) := cal_named_by T
  refine cal_of T.f_named_on_some T.g_named_on_some sc_named_on_some (fun vs H Q E h => ?_) (fun _ _ _ _ _ _ us hl => match us, hl with | [_, _], _ => rfl) (fun cdv A outer s H vs Q E hr h => ?_)
  · obtain ⟨bk, t, us, xs, b, e, rfl, _⟩ := h
    rfl
  · obtain ⟨bk, t, us, xs, b, e, rfl, B, lx, ht, be, okx, k⟩ := h
    have nd := sc_named_on_some.nd
    refine ⟨_, 
      (pss_cons (ps_asg (pv 1) (pg_tup rfl (pgs_cons (pg_name (i := 2) nd rfl (Or.inr rfl)) (pgs_cons (pg_name (i := 3) nd rfl (Or.inr rfl)) pgs_nil))))
      (pss_one (ps_ret (pe_c c_named_by hr (by rfl) (pa_cons (pe_lc (own := [("place", 4), ("one", 5)]) rfl nd (pi_list (pe_c c_namings_of hr (by rfl) (pa_cons (pv 0) pa_nil))) (blkOk_by (N := NN_named_on_some) (sc := defScope s_named_on_some) (by decide +kernel)) (fun _ _ _ _ _ => (show PG _ _ (gTup K 2 _) from (pg_tup rfl (pgs_cons (pg_name (i := 4) nd rfl (Or.inl rfl)) (pgs_cons (pg_name (i := 5) nd rfl (Or.inl rfl)) pgs_nil))))) (fun _ _ _ _ _ => (pts_one (PW.pt (pw_and (pt_cmpR op_le (pe_ix (show IxR _ (rIxT K) from ix_tup) (show PE _ _ (tFld K _ "own_days") from (pe_fld (pv 5) rfl)) pe_int (fun _ _ => rfl)) (pv 3) (nomark _)) (pw_and1 (pt_cmpR op_le (pv 2) (pe_ix (show IxR _ (rIxT K) from ix_tup) (show PE _ _ (tFld K _ "own_days") from (pe_fld (pv 5) rfl)) pe_int (fun _ _ => rfl)) (nomark _))))))) (fun _ _ _ _ _ => (pe_tup (pa_cons (pv 4) (pa_cons (pv 5) pa_nil))))) pa_nil))))), ?_⟩
    walk_at "go"
    refine ⟨t, _, rfl, ht, rfl, ?_⟩
    refine ⟨_, _, rfl, ?_⟩
    refine ⟨_, _, rfl, ?_⟩
    refine ⟨rfl, ?_⟩
    walk_at "go"
    refine ⟨bk, us, xs, rfl, B, lx, fun q ws ns H1 s1 nq hq R mem ln => ?_⟩
    have lws := R.1
    refine ⟨q, rfl, ⟨_, sq_of hq⟩, fun D nD => ?_⟩
    have nqD : q ≠ D := ne_of_none hq nD
    refine lc_it (walk_list (xs := ws)) (fun i H' => But D H1 H' ∧ ∃ vs ms, H' D = some (.lst vs) ∧ RowsAt K H' xs vs ms ∧ ms.length ≤ i ∧ ∀ n, n ∈ ms ↔ n ∈ ns.take i ∧ n ∈ nams (hold false b e) xs) ⟨upd_but, [], [], upd_same, ⟨rfl, fun i v e => by simp at e⟩, Nat.le_refl _, by simp⟩ (fun i H' _ ⟨w, _⟩ => sq_of (w _ _ nqD hq)) ?_ ?_
    · rintro i y _ H2 hi ⟨w2, vs, ms, hD, R2, lm, mem2⟩ ⟨rfl, hy⟩
      have s12 : Same H1 H2 := But.new (Same.refl H1) w2 nD
      obtain ⟨n, tt, a, b0, e0, hn, rfl, htt, hst, hx⟩ := (R.same s12).2 i y hy
      have tk : ns.take (i + 1) = ns.take i ++ [n] := by rw [List.take_add_one, hn, Option.toList_some]
      have hst0 := hst
      obtain ⟨a', dx, pc, pd, ea, ha, hpc, hpd⟩ := hst
      cases ea
      have lvs := R2.1
      have yes : hold false b e (.nam n.who n.word n.chain b0 e0) = true → ∀ m, m ∈ ms ++ [n] ↔ m ∈ ns.take (i + 1) ∧ m ∈ nams (hold false b e) xs := fun hh m => by
        rw [tk, List.mem_append, List.mem_append, List.mem_singleton, mem2 m]
        constructor
        · rintro (⟨h1, h2⟩ | rfl)
          · exact ⟨.inl h1, h2⟩
          · exact ⟨.inr rfl, mem_nams.mpr ⟨b0, e0, hx, hh⟩⟩
        · rintro ⟨h1 | h1, h2⟩
          · exact .inl ⟨h1, h2⟩
          · exact .inr h1
      have no : ¬ hold false b e (.nam n.who n.word n.chain b0 e0) = true → ∀ m, m ∈ ms ↔ m ∈ ns.take (i + 1) ∧ m ∈ nams (hold false b e) xs := fun hh m => by
        rw [tk, List.mem_append, List.mem_singleton, mem2 m]
        constructor
        · rintro ⟨h1, h2⟩
          exact ⟨.inl h1, h2⟩
        · rintro ⟨h1 | rfl, h2⟩
          · exact ⟨h1, h2⟩
          · obtain ⟨b1, e1, h3, h4⟩ := mem_nams.mp h2
            rw [hx] at h3
            cases h3
            exact absurd h4 hh
      refine ⟨tt, _, rfl, htt, rfl, ?_⟩
      refine ⟨_, _, rfl, ?_⟩
      refine ⟨_, _, rfl, ?_⟩
      refine ⟨rfl, ?_⟩
      refine ⟨rfl, ?_⟩
      walk_at "go"
      refine ⟨a, _, dx, _, _, rfl, ha, T.c_Naming, T.a_Naming_own_days, rfl, ?_⟩
      walk_at "go"
      refine ⟨pd, _, _, _, rfl, rfl, hpd, rfl, ?_⟩
      walk_at "go"
      refine iteD (fun c1 => ?_) (fun c1 => ?_)
      · walk_at "go"
        refine ⟨a, _, dx, _, _, rfl, ha, T.c_Naming, T.a_Naming_own_days, rfl, ?_⟩
        walk_at "go"
        refine ⟨pd, _, _, _, rfl, rfl, hpd, rfl, ?_⟩
        walk_at "go"
        refine iteD (fun c2 => ?_) (fun c2 => ?_)
        · walk_at "go"
          refine ⟨by show 2 ≤ sizeLine; decide, fun t2 nt2 => kNew nt2 fun H3 s3 ht2 => ?_⟩
          have hD3 := s3 _ _ hD
          refine ⟨vs, hD3, sz_lt (by omega), (w2.same s3).trans upd_but, vs ++ [.ref t2], ms ++ [n], upd_same, (R2.same s3).put upd_but hD3 (st_of ht2) (hst0.same s3) hx, by rw [List.length_append]; exact Nat.succ_le_succ lm, yes (by simp [hold]; omega)⟩
        · walk_at "go"
          exact ⟨w2, vs, ms, hD, R2, by omega, no (by simp [hold]; omega)⟩
      · walk_at "go"
        exact ⟨w2, vs, ms, hD, R2, by omega, no (by simp [hold]; omega)⟩
    · rintro H2 ⟨w2, vs, ms, hD, R2, lm, mem2⟩
      have s12 : Same H1 H2 := But.new (Same.refl H1) w2 nD
      rw [lws] at lm
      rw [lws, List.take_length] at mem2
      have mm : ∀ n, n ∈ ms ↔ n ∈ nams (hold false b e) xs := fun n => (mem2 n).trans ⟨fun h => h.2, fun h => ⟨(mem n).mpr (by
        obtain ⟨b1, e1, h3, _⟩ := mem_nams.mp h
        exact mem_nams.mpr ⟨b1, e1, h3, rfl⟩), h⟩⟩
      walk_at "go"
      refine ⟨D, vs, xs, ms, rfl, hD, R2, by omega, fun n hn => ?_, fun d gs H3 s3 N lg => ?_⟩
      · obtain ⟨b1, e1, h3, _⟩ := mem_nams.mp ((mm n).mp hn)
        have ok := (okx _ (List.mem_of_getElem? h3)).2.2.1
        exact ⟨fun z => by (have := ok.1; rw [z] at this; cases this), by have := ok.2.1; omega⟩
      · exact k d gs H3 ((s1.trans s12).trans s3) (N.congr mm) (by omega)
end
end NC
-- NcPap
set_option Elab.async false
set_option linter.all false
set_option maxRecDepth 100000
set_option maxHeartbeats 4000000
namespace NC
local macro_rules | `(tactic| walk_at "go") => `(tactic| (repeat (first
  | (refine ⟨_, rfl, ?_⟩)
  | (refine ⟨_, _, rfl, rfl, ?_⟩)
  | (refine ⟨_, _, rfl, ?_⟩)
  | (refine ⟨_, _, _, rfl, ?_⟩)
  | (refine Or.inl ⟨_, rfl, ?_⟩)
  | (refine iteT ?_)
  | (refine iteF ?_))))
open PySem PySem.Spec PyProof.Rows L2 PySem.W NdefX
def spPaperFor (K : PySem.W.Frag) : Sp := fun vs H Q _ => ∃ (bk r t : Addr) (us : List V) (xs : List Plain) (c : List Str) (who : Str) (b e : Int), vs = [.ref bk, .ref r, .str who, .ref t] ∧ BookAt K H bk us xs ∧ xs.length ≤ 7 ∧ (∀ p ∈ xs, PlainOk p) ∧ SqT K H r (c.map V.str) ∧ c ≠ [] ∧ c.length ≤ 20 ∧ SqT K H t [.int b, .int e] ∧ b ≤ e ∧
  ∀ v p H', Same H H' → Dp K H' v (dTold p) → Told xs b e c who p → Q v H'
theorem fn2_of {P : Program} {w : World} {K : PySem.W.Frag} {mg : Str → Option Value} {base : Heap} {x : Str} {params : Arguments} {body : List Stmt} {scope : Scope} {f : Addr} {N ps : List Str} {k : Nat} {sp : Sp}
    (F : ∃ fd, FunD K x x params body scope [] [] f fd) (S : FnScope N ps scope) (len : ∀ vs H Q E, sp vs H Q E → vs.length = ps.length)
    (hbody : ∀ (cdv : Value) (A : Around) (outer : List Env) (s : Shared) (H : Hp) (vs : List V) (Q : VK) (E : XK), Room k (A.deeper (envOfC x scope s.heap.objs.size f cdv)) → sp vs H Q E →
      ∃ t, PSs (cxOf CX0 P w K mg base N x scope f cdv A outer s H E).nox body t ∧ t { nx := fun _ H' => Q .non H', rt := Q } (start N vs) H) : ∃ fd, FnOk P w K mg base CX0 (k + 1) f fd ps sp ∧ FunD K x x params body scope [] [] f fd := by
  obtain ⟨fd, F⟩ := F
  refine ⟨fd, F.ok S len fun cdv A outer s H vs Q E hr h => ?_, F⟩
  obtain ⟨t, h1, h2⟩ := hbody cdv A outer s H vs Q E hr h
  exact ⟨t, h1.nox, h2⟩
theorem heads_word : ∀ {xs : List Plain}, (∀ p ∈ xs, PlainOk p) → ∀ x ∈ heads xs, WordOk x
  | [], _, x, hx => by cases hx
  | .nam w n c b e :: xs, h, x, hx => by
    rcases List.mem_append.mp (show x ∈ c.take 1 ++ heads xs from hx) with hx | hx
    · exact (h _ List.mem_cons_self).2.2.1.2.2 x (List.mem_of_mem_take hx)
    · exact heads_word (fun p hp => h p (List.mem_cons_of_mem _ hp)) x hx
  | .lev .. :: xs, h, x, hx => heads_word (fun p hp => h p (List.mem_cons_of_mem _ hp)) x hx
abbrev NN_paper_for : List Str := ["book", "chain", "person", "stretch", "found", "table"]
theorem sc_paper_for : FnScope NN_paper_for ["book", "chain", "person", "stretch"] (defScope s_paper_for) := ⟨rfl, rfl, rfl, by decide +kernel, rfl, by decide +kernel, by decide +kernel⟩
section
variable {P : Program} {w : World} {K : PySem.W.Frag} {mg : Str → Option Value} {base : Heap}
-- 0 book; 1 chain; 2 person; 3 stretch; 4 found; 5 table
theorem fn_paper_for (T : Txt K mg) : ∃ fd, FnOk P w K mg base CX0 5 (He.fAd K d_paper_for.at_) fd ["book", "chain", "person", "stretch"] (spPaperFor K) ∧ FunD K d_paper_for.name d_paper_for.qual d_paper_for.params d_paper_for.body d_paper_for.scope [] [] (He.fAd K d_paper_for.at_) fd := by
  have c_named_on_all : Cal P w K mg base 4 "named_on_all" (spNamedOn K true) := cal_named_on_all T
  have c_named_on_some : Cal P w K mg base 4 "named_on_some" (spNamedOn K false) := cal_named_on_some T
  have c_yes_paper : Cal P w K mg base 3 "yes_paper" (spYes K) := cal_yes_paper T
  have c_table_from : Cal P w K mg base 2 "table_from" (spTable K) := cal_table_from T
  have c_persons_in : Cal P w K mg base 1 "persons_in" (spPersons K) := cal_persons_in T
  have c_rows_of : Cal P w K mg base 1 "rows_of" (spRowsOf K) := cal_rows_of T
  refine fn2_of T.f_paper_for sc_paper_for (fun vs H Q E h => ?_) (fun cdv A outer s H vs Q E hr h => ?_)
  · obtain ⟨bk, r, t, us, xs, c, who, b, e, rfl, _⟩ := h
    rfl
  · obtain ⟨bk, r, t, us, xs, c, who, b, e, rfl, B, lx, okx, hrow, hc, hcl, ht, be, k⟩ := h
    have nd := sc_paper_for.nd
    have lh : (heads xs).length ≤ xs.length := heads_len xs
    refine ⟨_, 
      (pss_cons (ps_set (i := 4) nd rfl (Or.inl rfl) (pe_c c_yes_paper hr (by rfl) (pa_cons (pe_c c_named_on_all hr (by rfl) (pa_cons (pv 0) (pa_cons (pv 3) pa_nil))) (pa_cons (pv 1) (pa_cons (pv 2) pa_nil)))))
      (pss_cons (ps_if (pt_cmpR op_notN (pv 4) pe_non (nomark _)) 
        (pss_one (ps_ret (pv 4))) pss_nil)
      (pss_cons (ps_set (i := 5) nd rfl (Or.inl rfl) (pe_c c_table_from hr (by rfl) (pa_cons (pe_c c_named_on_some hr (by rfl) (pa_cons (pv 0) (pa_cons (pv 3) pa_nil))) pa_nil)))
      (pss_one (ps_ret (pe_ifExp (pt_cmpR (op_inT (α := Str) hr.units) (pv 2) (pe_c c_persons_in hr (by rfl) (pa_cons (pv 5) (pa_cons (pv 1) pa_nil))) (by rfl)) pe_non (pe_tup (pa_cons pe_str (pa_cons (pe_c c_rows_of hr (by rfl) (pa_cons (pv 5) pa_nil)) pa_nil))))))))), ?_⟩
    walk_at "go"
    refine ⟨bk, t, us, xs, b, e, rfl, B, by omega, ht, be, okx, fun d1 gs1 H1 s1 N1 lg1 => ?_⟩
    walk_at "go"
    have hU : (heads xs).length ≤ 40 := by omega
    have h64 : gs1.length * (heads xs).length < 64 := Nat.lt_of_le_of_lt (Nat.mul_le_mul (show gs1.length ≤ 7 by omega) (show (heads xs).length ≤ 7 by omega)) (by decide)
    refine ⟨d1, r, gs1, _, heads xs, c, who, rfl, N1, hU, h64, heads_nams, sq_t s1 hrow, hc, hcl, fun H2 s2 hno => ?_, fun q ls ks H2 s2 hd reach right sub led ll => ?_⟩
    · have s02 := s1.trans s2
      walk_at "go"
      refine ⟨rfl, ?_⟩
      walk_at "go"
      refine ⟨bk, t, us, xs, b, e, rfl, B.same s02, by omega, sq_t s02 ht, be, okx, fun d2 gs2 H3 s3 N3 lg2 => ?_⟩
      have s03 := s02.trans s3
      walk_at "go"
      refine ⟨d2, gs2, _, heads xs, rfl, N3, hU, heads_nams, fun q rs H4 s4 nq tab rel pw ne l24 keys => ?_⟩
      have s04 := s03.trans s4
      walk_at "go"
      refine ⟨q, r, rs, heads xs, c, rfl, tab, hU, sq_t s04 hrow, hc, hcl, fun q2 ys H5 s5 hq2 asc mys => ?_⟩
      have s05 := s04.trans s5
      have eqv : ∀ x, ReachC (RelT rs) c x ↔ Rch false xs b e c x := fun x => reachC_congr rel
      walk_at "go"
      refine ⟨q2, ys.map V.str, who, ys, rfl, .inr hq2, hdAll_strs ys, hd_str who, ?_⟩
      have relD : ∀ p n x, RelD (rs.map fun r => ((r.key, r.vals) : RowD)) p n x ↔ RelT rs p n x := fun p n x => by
        constructor
        · rintro ⟨r, hr, h1, h2⟩
          obtain ⟨r0, h3, rfl⟩ := List.mem_map.mp hr
          exact ⟨r0, h3, h1, h2⟩
        · rintro ⟨r0, h3, h1, h2⟩
          exact ⟨_, List.mem_map.mpr ⟨r0, h3, rfl⟩, h1, h2⟩
      have relL : ∀ p n x, RelD (rs.map fun r => ((r.key, r.vals) : RowD)) p n x ↔ Lfp (nams (hold false b e) xs) p n x := fun p n x => (relD p n x).trans (rel p n x)
      walk_at "go"
      refine iteD (fun hin => ?_) (fun hin => ?_)
      · walk_at "go"
        exact k .non none H5 s05 .non ⟨hno, (eqv who).mp ((mys who).mp hin)⟩
      · walk_at "go"
        refine ⟨q, rs, heads xs, rfl, tab.same s5, l24, pw, fun q3 us3 H6 s6 nq3 hq3 hus3 => ?_⟩
        walk_at "go"
        refine ⟨by show 2 ≤ sizeLine; decide, fun p np => kNew np fun H7 s7 hp => ?_⟩
        have nf : ¬ Rch false xs b e c who := fun h => hin ((mys who).mpr ((eqv who).mpr h))
        refine k (.ref p) (some (.no (rs.map fun r => ((r.key, r.vals) : RowD)))) H7 ((s05.trans s6).trans s7) (.tup (st_of hp) (.cons (.str _) (.cons (.tup (sq_t s7 hq3) (dpAll_same s7 hus3)) .nil))) ⟨⟨hno, nf⟩, ⟨?_, fun r hr => ?_⟩, ⟨heads xs, hU, fun r hr => ?_⟩, by rw [List.length_map]; omega, ?_, fun h => nf ((reachC_congr relL).mp h)⟩
        · exact List.pairwise_map.mpr (List.pairwise_map.mp pw)
        · obtain ⟨r0, h3, rfl⟩ := List.mem_map.mp hr
          obtain ⟨n, hn, hk⟩ := keys r0 h3
          obtain ⟨b1, e1, h4, _⟩ := mem_nams.mp hn
          have ok := okx _ (List.mem_of_getElem? h4)
          have asc0 := tab.asc r0 h3
          refine ⟨by rw [hk]; exact ok.1, by rw [hk]; exact ok.2.1, ne r0 h3, asc0, ?_, fun x hx => heads_word okx x (tab.sub r0 h3 x hx)⟩
          exact Nat.le_trans (nd_le asc0.nodup fun x hx => tab.sub r0 h3 x hx) hU
        · obtain ⟨r0, h3, rfl⟩ := List.mem_map.mp hr
          exact tab.sub r0 h3
        · intro n hn x hx
          exact (relL _ _ _).mpr (Lfp.closed _ n hn x ((reachC_congr relL).mp hx))
    · walk_at "go"
      refine ⟨rfl, ?_⟩
      refine ⟨_, rfl, iteK (by rw [decide_eq_false (show ¬ (V.ref q = V.non) from fun z => nomatch z)]; rfl) ?_⟩
      walk_at "go"
      exact k (.ref q) (some (.yes ls ks)) H2 (s1.trans s2) hd ⟨reach, right, fun l hl => heads_word okx _ (sub l hl), led, by omega⟩
theorem cal_paper_for (T : Txt K mg) : Cal P w K mg base 5 "paper_for" (spPaperFor K) := by
  obtain ⟨fd, F, D⟩ := fn_paper_for (P := P) (w := w) (base := base) T
  exact ⟨_, fd, _, F, T.g_paper_for, D.kp, D.bindsN fun _ _ _ _ _ _ us hl => match us, hl with | [_, _, _, _], _ => rfl⟩
end
end NC
-- NcLaw12
set_option Elab.async false
set_option linter.all false
set_option maxRecDepth 100000
set_option maxHeartbeats 4000000
namespace NC
local macro_rules | `(tactic| walk_at "go") => `(tactic| (repeat (first
  | (refine ⟨_, rfl, ?_⟩)
  | (refine ⟨_, _, rfl, rfl, ?_⟩)
  | (refine ⟨_, _, rfl, ?_⟩)
  | (refine ⟨_, _, _, rfl, ?_⟩)
  | (refine Or.inl ⟨_, rfl, ?_⟩)
  | (refine iteT ?_)
  | (refine iteF ?_))))
open PySem PySem.Spec PyProof.Rows L2 PySem.W
def spTold (K : PySem.W.Frag) : Sp := fun vs H Q _ => ∃ (a sg t r : Addr) (b e : Int) (who : Str) (v : V) (us : List V) (xs : List Plain) (c : List Str) (ns : List Int) (Ts : List Addr) (p : Option Paper), vs = [.ref a, .ref sg, .ref t, .ref r, .str who, v] ∧ H a = some (.lst us) ∧ HdAll K H us xs ∧ xs.length ≤ 24 ∧ (∀ x ∈ xs, PlainOk x) ∧
  SqT K H t [.int b, .int e] ∧ SqT K H r (c.map V.str) ∧ c ≠ [] ∧ c.length ≤ 20 ∧ Begins xs ns ∧ ns.length ≤ 60 ∧ H sg = some (.lst (Ts.map V.ref)) ∧ Ts.length = (segs ns).length ∧ (∀ (j : Nat) T, Ts[j]? = some T → ∃ s, (segs ns)[j]? = some s ∧ H T = some (.tup [.int s.1, .int s.2])) ∧
  Dp K H v (dTold p) ∧ Told xs b e c who p ∧ ∀ H', Same H H' → Q (.bl true) H'
abbrev NN_law_told_right : List Str := ["_law_plains", "_law_segments_here", "_law_span_here", "_law_row", "_law_who", "_law_told", "_law_kind", "_law_some", "_law_one"]
theorem sc_law_told_right : FnScope NN_law_told_right ["_law_plains", "_law_segments_here", "_law_span_here", "_law_row", "_law_who", "_law_told"] (defScope s_law_told_right) := ⟨rfl, rfl, rfl, by decide +kernel, rfl, by decide +kernel, by decide +kernel⟩
section
variable {P : Program} {w : World} {K : PySem.W.Frag} {mg : Str → Option Value} {base : Heap}
-- 0 _law_plains; 1 _law_segments_here; 2 _law_span_here; 3 _law_row; 4 _law_who; 5 _law_told; 6 _law_kind; 7 _law_some; 8 _law_one
theorem cal_told_right (T : Txt K mg) : Cal P w K mg base 5 "_law_told_right" (spTold K) := by
  have c_law_kind_for : Cal P w K mg base 3 "_law_kind_for" (spKind K) := cal_kind_for T
  have c_law_is_paper : Cal P w K mg base 4 "_law_is_paper" (spIsPaper K) := cal_is_paper T
  refine cal_of T.f_law_told_right T.g_law_told_right sc_law_told_right (fun vs H Q E h => ?_) (fun _ _ _ _ _ _ us hl => match us, hl with | [_, _, _, _, _, _], _ => rfl) (fun cdv A outer s H vs Q E hr h => ?_)
  · obtain ⟨a, sg, t, r, b, e, who, v, us, xs, c, ns, Ts, p, rfl, _⟩ := h
    rfl
  · obtain ⟨a, sg, t, r, b, e, who, v, us, xs, c, ns, Ts, p, rfl, ha, hx, hn, okx, ht, hrow, hc, hcl, B, ln, hsg, lT, segT, hd, told, k⟩ := h
    have nd := sc_law_told_right.nd
    refine ⟨_, 
      (pss_cons (ps_set (i := 6) nd rfl (Or.inl rfl) (pe_c c_law_kind_for hr (by rfl) (pa_cons (pv 0) (pa_cons (pv 2) (pa_cons (pv 3) (pa_cons (pv 4) pa_nil))))))
      (pss_cons (ps_if (PW.pt (pw_or (pt_cmpR op_isN (pv 5) pe_non (nomark _)) (pw_or1 (pt_cmpR op_isN (pv 6) pe_non (nomark _))))) 
        (pss_one (ps_ret (pe_and (pe_cmpR op_isN (pv 5) pe_non (nomark _)) (pe_one (pe_cmpR op_isN (pv 6) pe_non (nomark _)))))) pss_nil)
      (pss_cons (ps_if (PW.pt (pw_or (pt_not (pt_val (bB call_isi T.n_isinstance (pa_cons (pv 5) (pa_cons (pe_bltn (v := .ty "tuple") (by rfl) T.n_tuple (by decide +kernel) rfl) pa_nil))))) (pw_or1 (pt_cmpR (op_neT (α := (Tup Str)) hr.units) (pe_slice sl_tupA (pv 5) po_none (po_some pe_int)) (pe_tup (pa_cons (pv 6) pa_nil)) (nomark _))))) 
        (pss_one (ps_ret pe_bl)) pss_nil)
      (pss_cons (ps_setLc (i := 7) (own := [("_law_one", 8)]) rfl nd rfl rfl (sw_true rfl rfl rfl (by decide +kernel)) (pi_list (pv 1)) (blkOk_by (N := NN_law_told_right) (sc := defScope s_law_told_right) (by decide +kernel)) (fun _ _ _ _ _ => (pg_name (i := 8) nd rfl (Or.inl rfl))) (fun _ _ _ _ _ => (pts_one (PW.pt (pw_and (pt_cmpR op_le (pe_ix (show IxR _ (rIxT K) from ix_tup) (pv 8) pe_int (fun _ _ => rfl)) (pe_ix (show IxR _ (rIxT K) from ix_tup) (pv 2) pe_int (fun _ _ => rfl)) (nomark _)) (pw_and1 (pt_cmpR op_le (pe_ix (show IxR _ (rIxT K) from ix_tup) (pv 2) pe_int (fun _ _ => rfl)) (pe_ix (show IxR _ (rIxT K) from ix_tup) (pv 8) pe_int (fun _ _ => rfl)) (nomark _))))))) (fun _ _ _ _ _ => (pv 8)))
      (pss_one (ps_ret (pe_cmpR (op_eqT (α := (List Str)) hr.units) (pe_lc (own := [("_law_one", 8)]) rfl nd (pi_list (pv 7)) (blkOk_by (N := NN_law_told_right) (sc := defScope s_law_told_right) (by decide +kernel)) (fun _ _ _ _ _ => (pg_name (i := 8) nd rfl (Or.inl rfl))) (fun _ _ _ _ _ => (pts_one (pt_not (pt_val (pe_c c_law_is_paper hr (by rfl) (pa_cons (pv 0) (pa_cons (pe_ix (show IxR _ (rIxT K) from ix_tup) (pv 8) pe_int (fun _ _ => rfl)) (pa_cons (pv 3) (pa_cons (pv 4) (pa_cons (pv 5) pa_nil)))))))))) (fun _ _ _ _ _ => (pv 8))) (pe_lst pa_nil) (nomark _)))))))), ?_⟩
    walk_at "go"
    refine ⟨a, t, r, b, e, who, us, xs, c, rfl, ha, hx, hn, okx, ht, hrow, hc, hcl, fun kv H1 hk s1 => ?_⟩
    walk_at "go"
    cases p with
    | none =>
      cases hd
      obtain ⟨n1, y2⟩ := told
      have ek : kv = .non := by
        rcases hk with ⟨_, h⟩ | ⟨h, _⟩ | ⟨_, _, h⟩
        · exact absurd h n1
        · exact h
        · exact absurd y2 h
      subst ek
      refine ⟨rfl, ?_⟩
      walk_at "go"
      refine ⟨rfl, ?_⟩
      walk_at "go"
      refine ⟨rfl, ?_⟩
      exact k _ s1
    | some p =>
      obtain ⟨pa, kd, rest, rfl, g1, ne, rfl⟩ : ∃ pa kd rest, v = .ref pa ∧ SqT K H1 pa (V.str kd :: rest) ∧ 1 ≤ rest.length ∧ kv = .str kd := by
        cases p with
        | yes ls ks =>
          obtain ⟨p, pl, pk, us, rfl, q1, _⟩ := dp_yes hd
          refine ⟨p, "yes", _, rfl, sq_t s1 q1, Nat.le_add_left _ _, ?_⟩
          rcases hk with ⟨h, _⟩ | ⟨_, h, _⟩ | ⟨_, h, _⟩
          · exact h
          · exact absurd told.1 h
          · exact absurd told.1 h
        | no rows =>
          obtain ⟨p, pl, us, rfl, q1, _⟩ := dp_no hd
          refine ⟨p, "no", _, rfl, sq_t s1 q1, Nat.le_refl _, ?_⟩
          rcases hk with ⟨_, h⟩ | ⟨_, _, h⟩ | ⟨h, _, _⟩
          · exact absurd h told.1.1
          · exact absurd h told.1.2
          · exact h
      refine ⟨rfl, ?_⟩
      walk_at "go"
      refine ⟨rfl, ?_⟩
      walk_at "go"
      refine ⟨_, _, _, _, _, rfl, .ty _, ty_tup g1, kit_tt, ?_⟩
      walk_at "go"
      have l2 : 1 < (V.str kd :: rest).length := by rw [List.length_cons]; omega
      refine ⟨pa, _, rfl, g1, fun h => absurd h (take_new l2), fun _ tk ntk => kNew ntk fun H2 s2 htk => ?_⟩
      have ec : cutV (V.str kd :: rest) none (some 1) = [V.str kd] := cut_take _ 1 l2
      rw [ec] at htk
      walk_at "go"
      refine ⟨by show 1 ≤ sizeLine; decide, fun u nu => kNew nu fun H3 s3 hu => ?_⟩
      refine ⟨⟨[kd]⟩, ⟨[kd]⟩, hd_tup (st_of (s3 _ _ htk)) (hdAll_strs [kd]), hd_tup (st_of hu) (hdAll_strs [kd]), ?_⟩
      walk_at "go"
      refine iteN (decide_eq_false fun z => z rfl) ?_
      walk_at "go"
      have s03 := (s1.trans s2).trans s3
      have hsg3 := s03 _ _ hsg
      refine ⟨⟨_, sq_of hsg3⟩, fun D nD => ?_⟩
      have nsD : sg ≠ D := ne_of_none hsg3 nD
      refine lc_it (walk_list (xs := Ts.map V.ref)) (fun j H' => But D H3 H' ∧ ∃ Os : List Addr, H' D = some (.lst (Os.map V.ref)) ∧ Os.length ≤ j ∧ ∀ o ∈ Os, ∃ (i : Nat) (s : Int × Int), (segs ns)[i]? = some s ∧ H3 o = some (.tup [.int s.1, .int s.2]) ∧ s.1 ≤ e ∧ b ≤ s.2) ⟨upd_but, [], upd_same, Nat.le_refl _, by simp⟩ (fun j H' _ ⟨w, _⟩ => sq_of (w _ _ nsD hsg3)) ?_ ?_
      · rintro j y _ H4 hj ⟨w4, Os, hD, lO, hO⟩ ⟨rfl, hy⟩
        rw [List.getElem?_map] at hy
        obtain ⟨o, ho, rfl⟩ := Option.map_eq_some_iff.mp hy
        obtain ⟨s, hs, hos⟩ := segT j o ho
        have hos3 := s03 _ _ hos
        have s34 : Same H3 H4 := But.new (Same.refl H3) w4 nD
        have hos4 := s34 _ _ hos3
        have t4 := sq_t (s03.trans s34) ht
        refine ⟨rfl, ?_⟩
        walk_at "go"
        refine ⟨o, _, _, _, rfl, rfl, st_of hos4, rfl, ?_⟩
        walk_at "go"
        refine ⟨t, _, _, _, rfl, rfl, t4, rfl, ?_⟩
        walk_at "go"
        refine iteD (fun c1 => ?_) (fun c1 => ?_)
        · walk_at "go"
          refine ⟨t, _, _, _, rfl, rfl, t4, rfl, ?_⟩
          walk_at "go"
          refine ⟨o, _, _, _, rfl, rfl, st_of hos4, rfl, ?_⟩
          walk_at "go"
          refine iteD (fun c2 => ?_) (fun c2 => ?_)
          · have lj := (List.getElem?_eq_some_iff.mp ho).1
            have lz : (segs ns).length ≤ 60 := by unfold segs; rw [List.length_zip]; omega
            refine ⟨_, rfl, _, hD, by rw [List.length_map]; exact sz_lt (by omega), w4.trans upd_but, Os ++ [o], ?_, by rw [List.length_append]; show _ + 1 ≤ _; omega, fun o' ho' => ?_⟩
            · rw [upd_same, List.map_append]
              rfl
            · rcases List.mem_append.mp ho' with ho' | ho'
              · exact hO o' ho'
              · rw [List.mem_singleton.mp ho']
                exact ⟨j, s, hs, hos3, c1, c2⟩
          · exact ⟨w4, Os, hD, by omega, hO⟩
        · exact ⟨w4, Os, hD, by omega, hO⟩
      · rintro H4 ⟨w4, Os, hD, lO, hO⟩
        have s34 : Same H3 H4 := But.new (Same.refl H3) w4 nD
        walk_at "go"
        refine ⟨⟨_, sq_of hD⟩, fun D2 nD2 => ?_⟩
        have nD2D : D ≠ D2 := ne_of_none hD nD2
        have s04 := s03.trans s34
        refine lc_it (walk_list (xs := Os.map V.ref)) (fun j H' => But D2 H4 H' ∧ H' D2 = some (.lst [])) ⟨upd_but, upd_same⟩ (fun j H' _ ⟨w, _⟩ => sq_of (w _ _ nD2D hD)) ?_ ?_
        · rintro j y _ H5 hj ⟨w5, hD2⟩ ⟨rfl, hy⟩
          rw [List.getElem?_map] at hy
          obtain ⟨o, ho, rfl⟩ := Option.map_eq_some_iff.mp hy
          obtain ⟨i, s, hs, hos, c1, c2⟩ := hO o (List.mem_of_getElem? ho)
          have s45 : Same H4 H5 := But.new (Same.refl H4) w5 nD2
          have s05 := s04.trans s45
          refine ⟨rfl, ?_⟩
          walk_at "go"
          refine ⟨o, _, _, _, rfl, rfl, st_of ((s34.trans s45) _ _ hos), rfl, ?_⟩
          walk_at "go"
          refine ⟨a, r, s.1, who, .ref pa, us, xs, c, p, rfl, s05 _ _ ha, hx.same s05, hn, okx, sq_t s05 hrow, hc, hcl, dp_same s05 _ _ hd, told_ok B hs c1 c2 told, fun H6 s6 => ?_⟩
          walk_at "go"
          exact ⟨w5.same s6, s6 _ _ hD2⟩
        · rintro H5 ⟨w5, hD2⟩
          have s45 : Same H4 H5 := But.new (Same.refl H4) w5 nD2
          walk_at "go"
          refine ⟨Nat.zero_le _, fun eo neo => kNew neo fun H6 s6 heo => ?_⟩
          refine ⟨[], [], hd_lst (sq_of (s6 _ _ hD2)) hdAll_nil, hd_lst (sq_of heo) hdAll_nil, ?_⟩
          rw [decide_eq_true rfl]
          exact k _ ((s04.trans s45).trans s6)
end
end NC
-- NcDraw
set_option Elab.async false
set_option linter.all false
set_option maxRecDepth 100000
set_option maxHeartbeats 4000000
namespace NC
local macro_rules | `(tactic| walk_at "go") => `(tactic| (repeat (first
  | (refine ⟨_, rfl, ?_⟩)
  | (refine ⟨_, _, rfl, rfl, ?_⟩)
  | (refine ⟨_, _, rfl, ?_⟩)
  | (refine ⟨_, _, _, rfl, ?_⟩)
  | (refine Or.inl ⟨_, rfl, ?_⟩)
  | (refine iteT ?_)
  | (refine iteF ?_))))
open PySem PySem.Spec PyProof.Rows L2
/-! ### the pen -/
theorem k_ct : ¬ ((Sum.inr "cells" : Key) = (Sum.inr "turn" : Key)) := by decide +kernel
theorem k_cl : ¬ ((Sum.inr "cells" : Key) = (Sum.inr "left" : Key)) := by decide +kernel
theorem k_tc : ¬ ((Sum.inr "turn" : Key) = (Sum.inr "cells" : Key)) := by decide +kernel
theorem k_tl : ¬ ((Sum.inr "turn" : Key) = (Sum.inr "left" : Key)) := by decide +kernel
theorem k_lc : ¬ ((Sum.inr "left" : Key) = (Sum.inr "cells" : Key)) := by decide +kernel
theorem k_lt : ¬ ((Sum.inr "left" : Key) = (Sum.inr "turn" : Key)) := by decide +kernel
def penK (c : Addr) (tu lf : Int) : List (Key × V) := [(Sum.inr "cells", .ref c), (Sum.inr "turn", .int tu), (Sum.inr "left", .int lf)]
theorem pen_cells (c : Addr) (tu lf : Int) : valV (penK c tu lf) (Sum.inr "cells") = some (.ref c) := by
  unfold penK
  rw [valV_pos rfl]
theorem pen_turn (c : Addr) (tu lf : Int) : valV (penK c tu lf) (Sum.inr "turn") = some (.int tu) := by
  unfold penK
  rw [valV_neg k_ct, valV_pos rfl]
theorem pen_left (c : Addr) (tu lf : Int) : valV (penK c tu lf) (Sum.inr "left") = some (.int lf) := by
  unfold penK
  rw [valV_neg k_cl, valV_neg k_tl, valV_pos rfl]
theorem pen_putl (c : Addr) (tu lf v : Int) : putK (penK c tu lf) (Sum.inr "left") (.int v) = penK c tu v := by
  unfold putK
  rw [if_pos (by rw [valV_any, pen_left]; rfl)]
  simp only [penK, List.map_cons, List.map_nil, if_neg k_cl, if_neg k_tl, if_pos]
theorem pen_putt (c : Addr) (tu lf v : Int) : putK (penK c tu lf) (Sum.inr "turn") (.int v) = penK c v lf := by
  unfold putK
  rw [if_pos (by rw [valV_any, pen_turn]; rfl)]
  simp only [penK, List.map_cons, List.map_nil, if_neg k_ct, if_neg k_lt, if_pos]
/-- the pen at p: at most t turns so far -/
def Pen (K : PySem.W.Frag) (H : Hp) (p c : Addr) (t : Int) : Prop := ∃ (ns : List Int) (tu lf : Int), H p = some (.dK (penK c tu lf)) ∧ H c = some (.lst (ns.map V.int)) ∧ 0 ≤ tu ∧ tu ≤ t ∧ 0 ≤ lf
/-- what a def that draws leaves: all but the pen as it was, the pen some turns on -/
def spDraw (K : PySem.W.Frag) : Sp := fun vs H Q _ => ∃ (p c : Addr) (m t : Int), vs = [.ref p, .int m] ∧ 0 < m ∧ m ≤ 1000 ∧ t ≤ 100000 ∧ Pen K H p c t ∧ ∀ (v : Int) (H' : Hp), But p H H' → Pen K H' p c (t + 1) → 0 ≤ v → v < m → Q (.int v) H'
theorem pen_ne {K : PySem.W.Frag} {H : Hp} {p c : Addr} {kvs : List (Key × V)} {xs : List V} (h : H p = some (.dK kvs)) (s : SqL K H c xs) : c ≠ p ∨ ∃ o, K.lookup c = some o := by
  rcases s with (s | ⟨o, s⟩) | s
  · exact .inl (ne_of s h (by intro z; cases z))
  · exact .inl (ne_of s h (by intro z; cases z))
  · obtain ⟨o, _, _, h1, _⟩ := s
    exact .inr ⟨o, h1⟩
theorem bt_ld {K : PySem.W.Frag} {p : Addr} {H H' : Hp} {a : Addr} {xs : List V} {kvs : List (Key × V)} (w : But p H H') (hp : H p = some (.dK kvs)) (h : SqL K H a xs) : SqL K H' a xs := by
  rcases h with (h | ⟨o, h⟩) | h
  · exact .inl (.inl (w _ _ (ne_of h hp (by intro z; cases z)) h))
  · exact .inl (.inr ⟨o, w _ _ (ne_of h hp (by intro z; cases z)) h⟩)
  · exact .inr h
theorem pen_gl {H : Hp} {p c : Addr} {tu lf : Int} (h : H p = some (.dK (penK c tu lf))) : DGet H p (.str "left") (some (.int lf)) := by
  have z := DGet.k (k := Sum.inr "left") h
  rw [pen_left] at z
  exact z
theorem pen_gt {H : Hp} {p c : Addr} {tu lf : Int} (h : H p = some (.dK (penK c tu lf))) : DGet H p (.str "turn") (some (.int tu)) := by
  have z := DGet.k (k := Sum.inr "turn") h
  rw [pen_turn] at z
  exact z
theorem pen_gc {H : Hp} {p c : Addr} {tu lf : Int} (h : H p = some (.dK (penK c tu lf))) : DGet H p (.str "cells") (some (.ref c)) := by
  have z := DGet.k (k := Sum.inr "cells") h
  rw [pen_cells] at z
  exact z
theorem pen_pl {H : Hp} {p c : Addr} {tu lf v : Int} (h : H p = some (.dK (penK c tu lf))) : DPut H p (.str "left") (.int v) (upd H p (.dK (penK c tu v))) := by
  have z := DPut.k (k := Sum.inr "left") (v := .int v) h (sz_lt (by show 3 < 1000000; decide))
  rw [pen_putl] at z
  exact z
theorem pen_pt {H : Hp} {p c : Addr} {tu lf v : Int} (h : H p = some (.dK (penK c tu lf))) : DPut H p (.str "turn") (.int v) (upd H p (.dK (penK c v lf))) := by
  have z := DPut.k (k := Sum.inr "turn") (v := .int v) h (sz_lt (by show 3 < 1000000; decide))
  rw [pen_putt] at z
  exact z
local macro_rules | `(tactic| walk_at "pen") => `(tactic| (repeat (first
  | (refine ⟨_, rfl, ?_⟩)
  | (refine ⟨_, _, rfl, rfl, ?_⟩)
  | (refine Or.inl ⟨_, rfl, ?_⟩)
  | (refine iteT ?_)
  | (refine iteF ?_)
  | (refine ⟨_, _, rfl, pen_gl (by assumption), ?_⟩)
  | (refine ⟨_, _, rfl, pen_gt (by assumption), ?_⟩)
  | (refine ⟨_, _, rfl, pen_gc (by assumption), ?_⟩))))
theorem bt_ll {p c : Addr} {H H' : Hp} {xs : List V} {kvs : List (Key × V)} (w : But p H H') (hp : H p = some (.dK kvs)) (h : H c = some (.lst xs)) : H' c = some (.lst xs) := w _ _ (ne_of h hp (by intro z; cases z)) h
theorem mod_bd {a b : Int} (h : 0 < b) : 0 ≤ a % b ∧ a % b < b := ⟨Int.emod_nonneg _ (by omega), Int.emod_lt_of_pos _ h⟩
abbrev NN_law_draw : List Str := ["_law_pen_here", "_law_many", "_law_digit", "_law_turn", "_law_cell", "_law_primes", "_law_prime", "_law_drawn"]
theorem sc_law_draw : FnScope NN_law_draw ["_law_pen_here", "_law_many"] (defScope s_law_draw) := ⟨rfl, rfl, rfl, by decide +kernel, rfl, by decide +kernel, by decide +kernel⟩
section
variable {P : Program} {w : World} {K : PySem.W.Frag} {mg : Str → Option Value} {base : Heap}
-- 0 _law_pen_here; 1 _law_many; 2 _law_digit; 3 _law_turn; 4 _law_cell; 5 _law_primes; 6 _law_prime; 7 _law_drawn
theorem cal_draw (T : Txt K mg) : Cal P w K mg base 1 "_law_draw" (spDraw K) := by
  refine cal_of T.f_law_draw T.g_law_draw sc_law_draw (fun vs H Q E h => ?_) (fun _ _ _ _ _ _ us hl => match us, hl with | [_, _], _ => rfl) (fun cdv A outer s H vs Q E hr h => ?_)
  · obtain ⟨p, c, m, t, rfl, _⟩ := h
    rfl
  · obtain ⟨p, c, m, t, rfl, m0, m1, t1, ⟨ns, tu, lf, hp, hc, tu0, tu1, lf0⟩, k⟩ := h
    have hu := hu_of hr
    have nd := sc_law_draw.nd
    refine ⟨_, 
      (pss_cons (ps_if (pt_cmpR op_gt (pe_dget hu (pv 0) pe_str (fun _ _ => rfl)) pe_int (nomark _)) 
        (pss_cons (ps_set (i := 2) nd rfl (Or.inl rfl) (pe_op op_mod (bT call_int1 T.n_int (pa_cons (pe_dget hu (pv 0) pe_str (fun _ _ => rfl)) pa_nil)) (pv 1)))
        (pss_cons (ps_dput hu (pv 0) pe_str (pe_op op_fdiv (pe_dget hu (pv 0) pe_str (fun _ _ => rfl)) (pv 1)) rfl)
        (pss_one (ps_ret (pv 2))))) pss_nil)
      (pss_cons (ps_set (i := 3) nd rfl (Or.inl rfl) (pe_dget hu (pv 0) pe_str (fun _ _ => rfl)))
      (pss_cons (ps_dput hu (pv 0) pe_str (pe_op op_add (pv 3) pe_int) rfl)
      (pss_cons (ps_set (i := 4) nd rfl (Or.inl rfl) (pe_op op_add (pe_op op_mul pe_int (pv 3)) pe_int))
      (pss_cut (ps_if (pt_cmpR (op_neT (α := (List Int)) hr.units) (pe_dget hu (pv 0) pe_str (fun _ _ => rfl)) (pe_lst pa_nil) (nomark _)) 
        (pss_one (ps_set (i := 4) nd rfl (Or.inl rfl) (pe_ix ix_list (pe_dget hu (pv 0) pe_str (fun _ _ => rfl)) (pe_op op_mod (bT call_int1 T.n_int (pa_cons (pv 3) pa_nil)) (bB call_len T.n_len (pa_cons (pe_dget hu (pv 0) pe_str (fun _ _ => rfl)) pa_nil))) (fun _ _ => rfl)))) pss_nil)
      (pss_cut (ps_if (PW.pt (pw_and (pt_cmpR op_lt (pv 3) (bB call_len T.n_len (pa_cons (pe_dget hu (pv 0) pe_str (fun _ _ => rfl)) pa_nil)) (nomark _)) (pw_and1 (pt_cmpR op_ge (bB call_abs T.n_abs (pa_cons (pv 4) pa_nil)) (pe_powc (r := 1000000000000000000) (by decide) ⟨by decide, by decide, by decide⟩) (nomark _))))) 
        (pss_cons (ps_dput hu (pv 0) pe_str (pe_op op_fdiv (pe_op op_sub (bB call_abs T.n_abs (pa_cons (pv 4) pa_nil)) (pe_powc (r := 1000000000000000000) (by decide) ⟨by decide, by decide, by decide⟩)) (pv 1)) rfl)
        (pss_one (ps_ret (pe_op op_mod (pe_op op_sub (bB call_abs T.n_abs (pa_cons (pv 4) pa_nil)) (pe_powc (r := 1000000000000000000) (by decide) ⟨by decide, by decide, by decide⟩)) (pv 1))))) pss_nil)
      (pss_cons (ps_set (i := 5) nd rfl (Or.inl rfl) (pe_lst (pa_cons pe_int (pa_cons pe_int (pa_cons pe_int (pa_cons pe_int (pa_cons pe_int pa_nil)))))))
      (pss_cons (ps_set (i := 6) nd rfl (Or.inl rfl) (pe_ix ix_list (pv 5) (pe_op op_mod (bT call_int1 T.n_int (pa_cons (pv 3) pa_nil)) pe_int) (fun _ _ => rfl)))
      (pss_cons (ps_set (i := 7) nd rfl (Or.inl rfl) (pe_op op_mod (bT call_int1 T.n_int (pa_cons (pe_op op_add (pe_op op_add (pe_op op_mul (pe_op op_mod (bT call_int1 T.n_int (pa_cons (pv 4) pa_nil)) (pv 6)) pe_int) (pe_op op_mul (pv 3) (pe_op op_add (pe_op op_mul pe_int (pv 3)) pe_int))) pe_int) pa_nil)) (pv 6)))
      (pss_cons (ps_set (i := 7) nd rfl (Or.inl rfl) (pe_op op_mod (bT call_int1 T.n_int (pa_cons (pe_op op_mul (pv 7) (pe_op op_add (pv 7) pe_int)) pa_nil)) (pe_ix ix_list (pv 5) (pe_op op_mod (bT call_int1 T.n_int (pa_cons (pe_op op_add (pv 3) pe_int) pa_nil)) pe_int) (fun _ _ => rfl))))
      (pss_one (ps_ret (pe_op op_mod (bT call_int1 T.n_int (pa_cons (pe_op op_fdiv (pe_op op_mod (bT call_int1 T.n_int (pa_cons (pe_op op_add (pe_op op_add (pe_op op_mul (pv 7) (pv 7)) (pe_op op_mul pe_int (pv 7))) (pv 3)) pa_nil)) pe_int) pe_int) pa_nil)) (pv 1)))))))))))))), ?_⟩
    -- if pen['left'] > 0
    walk_at "pen"
    refine iteD (fun hlf => ?_) (fun hlf => ?_)
    · walk_at "pen"
      refine ⟨m0, ?_⟩
      walk_at "pen"
      refine ⟨⟨m0, by omega⟩, ?_⟩
      walk_at "pen"
      refine ⟨_, _, rfl, pen_pl hp, kPut fun H1 w1 hp1 => ?_⟩
      walk_at "pen"
      obtain ⟨z1, z2⟩ := mod_bd (a := lf) m0
      exact k _ H1 w1 ⟨ns, tu, lf / m, hp1, bt_ll w1 hp hc, tu0, by omega, Int.ediv_nonneg lf0 (by omega)⟩ z1 z2
    · walk_at "pen"
      -- turn
      refine ⟨_, _, rfl, pen_pt hp, kPut fun H1 w1 hp1 => ?_⟩
      have hc1 := bt_ll w1 hp hc
      walk_at "pen"
      refine ⟨.inl (by omega), ?_⟩
      walk_at "pen"
      -- if pen['cells'] != []
      refine ⟨fun σ' H' => ∃ cl : Int, σ' = [some (.ref p), some (.int m), none, some (.int tu), some (.int cl), none, none, none] ∧ But p H H' ∧ H' p = some (.dK (penK c (tu + 1) lf)) ∧ H' c = some (.lst (ns.map V.int)), ?_, ?_⟩
      · walk_at "pen"
        refine ⟨Nat.zero_le _, fun q nq => kNew nq fun H2 s2 hq2 => ?_⟩
        refine ⟨ns, [], hd_ints (sq_of (s2 _ _ hc1)), hd_ints (ns := []) (sq_of hq2), ?_⟩
        have hp2 := s2 _ _ hp1
        have hc2 := s2 _ _ hc1
        walk_at "pen"
        refine iteD (fun hns => ?_) (fun hns => ⟨_, rfl, w1.same s2, hp2, hc2⟩)
        have hl : 0 < ns.length := List.length_pos_iff.mpr hns
        walk_at "pen"
        refine ⟨_, (ns.map V.int).length, rfl, .inl ⟨_, sq_of hc2, rfl⟩, ?_⟩
        rw [List.length_map]
        walk_at "pen"
        obtain ⟨z1, z2⟩ := mod_bd (a := tu) (b := (ns.length : Int)) (by omega)
        obtain ⟨j, ej⟩ : ∃ j : Nat, tu % (ns.length : Int) = (j : Int) := ⟨(tu % (ns.length : Int)).toNat, by omega⟩
        have hj : j < ns.length := by omega
        refine ⟨by omega, _, ns.map V.int, tu % (ns.length : Int), .int ns[j], rfl, rfl, sq_of hc2, ?_, ?_⟩
        · rw [ej]
          exact atI_nat (by rw [List.getElem?_map, List.getElem?_eq_getElem hj]; rfl)
        · exact ⟨_, rfl, w1.same s2, hp2, hc2⟩
      · rintro σ' H2 ⟨cl, rfl, w2, hp2, hc2⟩
        -- if turn < len(cells) and abs(cell) >= 10 ** 18
        refine ⟨fun σ' H' => σ' = [some (.ref p), some (.int m), none, some (.int tu), some (.int cl), none, none, none] ∧ H' = H2, ?_, ?_⟩
        · walk_at "pen"
          refine ⟨_, (ns.map V.int).length, rfl, .inl ⟨_, sq_of hc2, rfl⟩, ?_⟩
          walk_at "pen"
          refine iteD (fun h1 => ?_) (fun h1 => ?_)
          · walk_at "pen"
            refine iteD (fun h2 => ?_) (fun h2 => ⟨rfl, rfl⟩)
            walk_at "pen"
            refine ⟨⟨m0, by omega⟩, ?_⟩
            walk_at "pen"
            refine ⟨_, _, rfl, pen_pl hp2, kPut fun H3 w3 hp3 => ?_⟩
            walk_at "pen"
            refine ⟨m0, ?_⟩
            walk_at "pen"
            obtain ⟨z1, z2⟩ := mod_bd (a := (if cl < 0 then -cl else cl) - 1000000000000000000) m0
            exact k _ H3 (w2.trans w3) ⟨ns, tu + 1, _, hp3, bt_ll w3 hp2 hc2, by omega, by omega, Int.ediv_nonneg (by omega) (by omega)⟩ z1 z2
          · walk_at "pen"
            exact ⟨rfl, rfl⟩
        · rintro σ' H3 ⟨rfl, rfl⟩
          clear hp hc hlf w1 hp1 hc1
          walk_at "pen"
          refine ⟨by show 5 ≤ sizeLine; decide, fun q nq => kNew nq fun H4 s4 hq4 => ?_⟩
          have at5 : ∀ z : Int, ∃ r : Int, atI ([V.int 2147483629, .int 2147483647, .int 2147483587, .int 2147483563, .int 2147483579] : List V) (z % 5) = some (.int r) ∧ 0 < r ∧ r ≤ 2147483647 := fun z => by
            obtain ⟨z1, z2⟩ := mod_bd (a := z) (b := 5) (by omega)
            rcases (by omega : z % 5 = 0 ∨ z % 5 = 1 ∨ z % 5 = 2 ∨ z % 5 = 3 ∨ z % 5 = 4) with e | e | e | e | e <;> rw [e]
            · exact ⟨_, rfl, by omega, by omega⟩
            · exact ⟨_, rfl, by omega, by omega⟩
            · exact ⟨_, rfl, by omega, by omega⟩
            · exact ⟨_, rfl, by omega, by omega⟩
            · exact ⟨_, rfl, by omega, by omega⟩
          walk_at "pen"
          obtain ⟨pr, e1, p1, p2⟩ := at5 tu
          refine ⟨by omega, _, _, _, _, rfl, rfl, sq_of hq4, e1, ?_⟩
          walk_at "pen"
          refine ⟨p1, ?_⟩
          obtain ⟨c1, c2⟩ := mod_bd (a := cl) p1
          walk_at "pen"
          refine ⟨.inl (by omega), ?_⟩
          walk_at "pen"
          refine ⟨.inl (by omega), ?_⟩
          walk_at "pen"
          refine ⟨.inl (by omega), ?_⟩
          walk_at "pen"
          refine ⟨p1, ?_⟩
          obtain ⟨c3, c4⟩ := mod_bd (a := cl % pr * 39373 + tu * (30011 * tu + 8117) + 23) p1
          walk_at "pen"
          refine ⟨.inl (by omega), ?_⟩
          walk_at "pen"
          obtain ⟨pr2, e2, p3, p4⟩ := at5 (tu + 2)
          refine ⟨by omega, _, _, _, _, rfl, rfl, sq_of hq4, e2, ?_⟩
          walk_at "pen"
          refine ⟨p3, ?_⟩
          let x2 := (cl % pr * 39373 + tu * (30011 * tu + 8117) + 23) % pr
          obtain ⟨c5, c6⟩ := mod_bd (a := x2 * (x2 + 69621)) p3
          let x3 := x2 * (x2 + 69621) % pr2
          walk_at "pen"
          refine ⟨.inl (show -(2 ^ 64) < x3 ∧ x3 < 2 ^ 64 by omega), ?_⟩
          walk_at "pen"
          refine ⟨.inl (by omega), ?_⟩
          walk_at "pen"
          refine ⟨by omega, ?_⟩
          walk_at "pen"
          refine ⟨⟨by omega, by omega⟩, ?_⟩
          walk_at "pen"
          refine ⟨m0, ?_⟩
          obtain ⟨z1, z2⟩ := mod_bd (a := (x3 * x3 + 16807 * x3 + tu) % 2147483549 / 64) m0
          exact k _ H4 (w2.same s4) ⟨ns, tu + 1, lf, s4 _ _ hp2, s4 _ _ hc2, by omega, by omega, lf0⟩ z1 z2
end
end NC
-- NcDraw2
set_option Elab.async false
set_option linter.all false
set_option maxRecDepth 100000
set_option maxHeartbeats 4000000
namespace NC
local macro_rules | `(tactic| walk_at "go") => `(tactic| (repeat (first
  | (refine ⟨_, rfl, ?_⟩)
  | (refine ⟨_, _, rfl, rfl, ?_⟩)
  | (refine ⟨_, _, rfl, ?_⟩)
  | (refine ⟨_, _, _, rfl, ?_⟩)
  | (refine Or.inl ⟨_, rfl, ?_⟩)
  | (refine iteT ?_)
  | (refine iteF ?_))))
open PySem PySem.Spec PyProof.Rows L2 PySem.W
abbrev chars (z : Str) : List Nat := z.cps.toList
/-- what a def that draws hands on to its caller -/
def Drew (K : PySem.W.Frag) (H : Hp) (p c : Addr) (t : Int) (H' : Hp) : Prop := But p H H' ∧ Pen K H' p c t
theorem Drew.same {K : PySem.W.Frag} {H H1 H' : Hp} {p c : Addr} {t : Int} (s : Same H H1) (d : Drew K H1 p c t H') : Drew K H p c t H' := ⟨Same.but s d.1, d.2⟩
theorem Drew.trans {K : PySem.W.Frag} {H H1 H' : Hp} {p c : Addr} {t u : Int} (a : Drew K H p c t H1) (b : Drew K H1 p c u H') : Drew K H p c u H' := ⟨a.1.trans b.1, b.2⟩
theorem Pen.same {K : PySem.W.Frag} {H H' : Hp} {p c : Addr} {t : Int} (s : Same H H') (h : Pen K H p c t) : Pen K H' p c t := by
  obtain ⟨ns, tu, lf, h1, h2, h3⟩ := h
  exact ⟨ns, tu, lf, s _ _ h1, s _ _ h2, h3⟩
theorem Pen.mono {K : PySem.W.Frag} {H : Hp} {p c : Addr} {t u : Int} (h : Pen K H p c t) (l : t ≤ u) : Pen K H p c u := by
  obtain ⟨ns, tu, lf, h1, h2, h3, h4, h5⟩ := h
  exact ⟨ns, tu, lf, h1, h2, h3, by omega, h5⟩
theorem Drew.then {K : PySem.W.Frag} {H H1 H2 : Hp} {p c : Addr} {t : Int} (a : Drew K H p c t H1) (s : Same H1 H2) : Drew K H p c t H2 := ⟨a.1.same s, a.2.same s⟩
theorem Drew.mono {K : PySem.W.Frag} {H H1 : Hp} {p c : Addr} {t u : Int} (a : Drew K H p c t H1) (l : t ≤ u) : Drew K H p c u H1 := ⟨a.1, a.2.mono l⟩
theorem Pen.at_ {K : PySem.W.Frag} {H : Hp} {p c : Addr} {t : Int} (h : Pen K H p c t) : ∃ kvs, H p = some (.dK kvs) := by
  obtain ⟨ns, tu, lf, h1, _⟩ := h
  exact ⟨_, h1⟩
/-- what stands stays while it is drawn -/
theorem Drew.l {K : PySem.W.Frag} {H H' : Hp} {p c a : Addr} {t u : Int} {xs : List V} (d : Drew K H p c u H') (h : Pen K H p c t) (s : SqL K H a xs) : SqL K H' a xs := by
  obtain ⟨kvs, hp⟩ := h.at_
  exact bt_ld d.1 hp s
theorem Drew.t {K : PySem.W.Frag} {H H' : Hp} {p c a : Addr} {t u : Int} {xs : List V} (d : Drew K H p c u H') (h : Pen K H p c t) (s : SqT K H a xs) : SqT K H' a xs := by
  obtain ⟨kvs, hp⟩ := h.at_
  exact bt_t d.1 hp rfl s
theorem Drew.d {K : PySem.W.Frag} {H H' : Hp} {p c : Addr} {t u : Int} {α : Type} [DecidableEq α] [Datum α] {v : V} {x : α} (d : Drew K H p c u H') (h : Pen K H p c t) (s : Hd K H v x) : Hd K H' v x := by
  obtain ⟨kvs, hp⟩ := h.at_
  exact s.but d.1 hp rfl
theorem Drew.ds {K : PySem.W.Frag} {H H' : Hp} {p c : Addr} {t u : Int} {α : Type} [DecidableEq α] [Datum α] {vs : List V} {xs : List α} (d : Drew K H p c u H') (h : Pen K H p c t) (s : HdAll K H vs xs) : HdAll K H' vs xs := by
  obtain ⟨kvs, hp⟩ := h.at_
  exact s.but d.1 hp rfl
/-- an object that is no dict of texts stays -/
theorem Drew.o {K : PySem.W.Frag} {H H' : Hp} {p c a : Addr} {t u : Int} {o : HO} (d : Drew K H p c u H') (h : Pen K H p c t) (s : H a = some o) (ho : ∀ kvs, o ≠ .dK kvs) : H' a = some o := by
  obtain ⟨kvs, hp⟩ := h.at_
  exact d.1 _ _ (ne_of s hp (ho _)) s
/-- an object of one's own is written -/
theorem Drew.put {K : PySem.W.Frag} {H0 H H' : Hp} {p c D : Addr} {t u : Int} (d : Drew K H0 p c t H) (h0 : Pen K H0 p c u) (n : H0 D = none) (w : But D H H') : Drew K H0 p c t H' := by
  obtain ⟨ns0, tu0, lf0, e0, s0, _⟩ := h0
  obtain ⟨ns, tu, lf, e1, s1, r⟩ := d.2
  exact ⟨fun b o hb e => w b o (ne_of_none e n) (d.1 b o hb e), ns, tu, lf, w _ _ (ne_of_none e0 n) e1, w _ _ (ne_of_none s0 n) s1, r⟩
theorem Drew.new {K : PySem.W.Frag} {H0 H : Hp} {p c D : Addr} {t : Int} (d : Drew K H0 p c t H) (n : H D = none) : H0 D = none := by
  cases e : H0 D with
  | none => rfl
  | some o =>
    by_cases q : D = p
    · obtain ⟨ns, tu, lf, e1, _⟩ := d.2
      rw [q, e1] at n
      cases n
    · rw [d.1 D o q e] at n
      cases n
def spPick (K : PySem.W.Frag) : Sp := fun vs H Q _ => ∃ (p c : Addr) (o : V) (t : Int), vs = [.ref p, o] ∧ t ≤ 90000 ∧ Pen K H p c t ∧
  ((∃ a xs, o = .ref a ∧ SqL K H a xs ∧ xs ≠ [] ∧ xs.length ≤ 1000 ∧ ∀ v ∈ xs, ∀ H', Drew K H p c (t + 1) H' → Q v H') ∨
   (∃ z, o = .str z ∧ 0 < z.length ∧ z.length ≤ 1000 ∧ ∀ x ∈ chars z, ∀ H', Drew K H p c (t + 1) H' → Q (.str ⟨#[x]⟩) H'))
def spGreat (K : PySem.W.Frag) : Sp := fun vs H Q _ => ∃ (p c : Addr) (n : Nat) (t : Int), vs = [.ref p, .int n] ∧ n ≤ 40 ∧ t ≤ 90000 ∧ Pen K H p c t ∧ ∀ (v : Int) H', Drew K H p c (t + n) H' → 0 ≤ v → v < 10 ^ n → Q (.int v) H'
def spSpot (K : PySem.W.Frag) : Sp := fun vs H Q _ => ∃ (p c : Addr) (t : Int), vs = [.ref p] ∧ t ≤ 80000 ∧ Pen K H p c t ∧ ∀ (v : Int) H', Drew K H p c (t + 32) H' → 0 ≤ v → v ≤ 1000000000000000000000000000000 → Q (.int v) H'
def spSpan (K : PySem.W.Frag) (n m : Int) : Sp := fun vs H Q _ => ∃ (p c : Addr) (t : Int), vs = [.ref p] ∧ t ≤ m ∧ Pen K H p c t ∧ ∀ (a : Addr) (b e : Int) H', Drew K H p c (t + n) H' → SpanOk b e → SqT K H' a [.int b, .int e] → Q (.ref a) H'
def spInner (K : PySem.W.Frag) : Sp := fun vs H Q _ => ∃ (p c a : Addr) (b e t : Int), vs = [.ref p, .ref a] ∧ t ≤ 60000 ∧ Pen K H p c t ∧ SqT K H a [.int b, .int e] ∧ b ≤ e ∧ ∀ (v : Int) H', Drew K H p c (t + 31) H' → b ≤ v → v ≤ e → Q (.int v) H'
abbrev NN_law_pick : List Str := ["_law_pen_here", "_law_options"]
theorem sc_law_pick : FnScope NN_law_pick ["_law_pen_here", "_law_options"] (defScope s_law_pick) := ⟨rfl, rfl, rfl, by decide +kernel, rfl, by decide +kernel, by decide +kernel⟩
abbrev NN_law_great : List Str := ["_law_pen_here", "_law_digits", "_law_found", "_law_k"]
theorem sc_law_great : FnScope NN_law_great ["_law_pen_here", "_law_digits"] (defScope s_law_great) := ⟨rfl, rfl, rfl, by decide +kernel, rfl, by decide +kernel, by decide +kernel⟩
abbrev NN_law_spot : List Str := ["_law_pen_here", "_law_small"]
theorem sc_law_spot : FnScope NN_law_spot ["_law_pen_here"] (defScope s_law_spot) := ⟨rfl, rfl, rfl, by decide +kernel, rfl, by decide +kernel, by decide +kernel⟩
abbrev NN_law_span : List Str := ["_law_pen_here", "_law_first", "_law_last"]
theorem sc_law_span : FnScope NN_law_span ["_law_pen_here"] (defScope s_law_span) := ⟨rfl, rfl, rfl, by decide +kernel, rfl, by decide +kernel, by decide +kernel⟩
abbrev NN_law_days : List Str := ["_law_pen_here"]
theorem sc_law_days : FnScope NN_law_days ["_law_pen_here"] (defScope s_law_days) := ⟨rfl, rfl, rfl, by decide +kernel, rfl, by decide +kernel, by decide +kernel⟩
abbrev NN_law_inner : List Str := ["_law_pen_here", "_law_span_here"]
theorem sc_law_inner : FnScope NN_law_inner ["_law_pen_here", "_law_span_here"] (defScope s_law_inner) := ⟨rfl, rfl, rfl, by decide +kernel, rfl, by decide +kernel, by decide +kernel⟩
section
variable {P : Program} {w : World} {K : PySem.W.Frag} {mg : Str → Option Value} {base : Heap}
-- 0 _law_pen_here; 1 _law_options
theorem cal_pick (T : Txt K mg) : Cal P w K mg base 2 "_law_pick" (spPick K) := by
  have c_law_draw : Cal P w K mg base 1 "_law_draw" (spDraw K) := cal_draw T
  refine cal_of T.f_law_pick T.g_law_pick sc_law_pick (fun vs H Q E h => ?_) (fun _ _ _ _ _ _ us hl => match us, hl with | [_, _], _ => rfl) (fun cdv A outer s H vs Q E hr h => ?_)
  · obtain ⟨p, c, o, t, rfl, _⟩ := h
    rfl
  · obtain ⟨p, c, o, t, rfl, t1, hp, k⟩ := h
    refine ⟨_, 
      (pss_one (ps_ret (pe_ix ix_seq (pv 1) (pe_c c_law_draw hr (by rfl) (pa_cons (pv 0) (pa_cons (bB call_len T.n_len (pa_cons (pv 1) pa_nil)) pa_nil))) (fun _ _ => rfl)))), ?_⟩
    rcases k with ⟨a, xs, rfl, ha, hne, hl, k⟩ | ⟨z, rfl, z0, z1, k⟩
    · have l0 : 0 < xs.length := List.length_pos_iff.mpr hne
      walk_at "go"
      refine ⟨_, xs.length, rfl, .inl ⟨_, ha, rfl⟩, ?_⟩
      refine ⟨p, c, xs.length, t, rfl, by omega, by omega, by omega, hp, fun v H' b1 p1 v0 v1 => ?_⟩
      have d : Drew K H p c (t + 1) H' := ⟨b1, p1⟩
      have hj : v.toNat < xs.length := by omega
      refine .inl ⟨a, xs, v, _, rfl, rfl, d.l hp ha, at_nat v0 (List.getElem?_eq_getElem hj), k xs[v.toNat] (List.getElem_mem hj) H' d⟩
    · walk_at "go"
      refine ⟨_, z.length, rfl, ⟨sz_of (by omega), rfl⟩, ?_⟩
      refine ⟨p, c, z.length, t, rfl, by omega, by omega, by omega, hp, fun v H' b1 p1 v0 v1 => ?_⟩
      have d : Drew K H p c (t + 1) H' := ⟨b1, p1⟩
      have hj : v.toNat < z.cps.toList.length := by rw [Array.length_toList]; show v.toNat < z.length; omega
      refine .inr (.inr ⟨z, v, _, rfl, rfl, sz_of (by omega), at_nat v0 (List.getElem?_eq_getElem hj), k _ (List.getElem_mem hj) H' d⟩)
-- 0 _law_pen_here; 1 _law_digits; 2 _law_found; 3 _law_k
theorem cal_great (T : Txt K mg) : Cal P w K mg base 2 "_law_great" (spGreat K) := by
  have c_law_draw : Cal P w K mg base 1 "_law_draw" (spDraw K) := cal_draw T
  refine cal_of T.f_law_great T.g_law_great sc_law_great (fun vs H Q E h => ?_) (fun _ _ _ _ _ _ us hl => match us, hl with | [_, _], _ => rfl) (fun cdv A outer s H vs Q E hr h => ?_)
  · obtain ⟨p, c, n, t, rfl, _⟩ := h
    rfl
  · obtain ⟨p, c, n, t, rfl, n1, t1, hp, k⟩ := h
    have nd := sc_law_great.nd
    refine ⟨_, 
      (pss_cons (ps_set (i := 2) nd rfl (Or.inl rfl) pe_int)
      (pss_cons (ps_for PassesOwn.never rfl (pi_range1 (by rfl) T.n_range (pa_cons (pv 1) pa_nil)) (pg_name (i := 3) nd rfl (Or.inl rfl)) 
        (pss_one (ps_set (i := 2) nd rfl (Or.inl rfl) (pe_op op_add (pe_op op_mul pe_int (pv 2)) (pe_c c_law_draw hr (by rfl) (pa_cons (pv 0) (pa_cons pe_int pa_nil)))))))
      (pss_one (ps_ret (pv 2))))), ?_⟩
    walk_at "go"
    refine ⟨by omega, by omega, for_range (lo := 0) (n := (n : Int).toNat) (fun i σ H' => ∃ (v : Int) (o : Option V), σ = [some (.ref p), some (.int n), some (.int v), o] ∧ Drew K H p c (t + i) H' ∧ 0 ≤ v ∧ v < 10 ^ i)
      ⟨0, none, rfl, ⟨But.refl _ _, hp.mono (by omega)⟩, by omega, by decide⟩ ?_ ?_⟩
    · rintro i σ H1 hi ⟨v, o, rfl, d, v0, v1⟩
      walk_at "go"
      refine ⟨.inl (by decide), ?_⟩
      walk_at "go"
      refine ⟨p, c, 10, t + i, rfl, by decide, by decide, by omega, d.2, fun z H2 b2 p2 z0 z1 => ?_⟩
      refine ⟨_, _, rfl, rfl, ?_⟩
      refine ⟨_, _, rfl, d.trans ⟨b2, p2.mono (by omega)⟩, by omega, ?_⟩
      rw [Int.pow_succ]
      omega
    · rintro σ H1 ⟨v, o, rfl, d, v0, v1⟩
      walk_at "go"
      rw [Int.toNat_natCast] at d v1
      exact k v H1 d v0 v1
-- 0 _law_pen_here; 1 _law_small
theorem cal_spot (T : Txt K mg) : Cal P w K mg base 3 "_law_spot" (spSpot K) := by
  have c_law_draw : Cal P w K mg base 1 "_law_draw" (spDraw K) := cal_draw T
  have c_law_pick : Cal P w K mg base 2 "_law_pick" (spPick K) := cal_pick T
  have c_law_great : Cal P w K mg base 2 "_law_great" (spGreat K) := cal_great T
  refine cal_of T.f_law_spot T.g_law_spot sc_law_spot (fun vs H Q E h => ?_) (fun _ _ _ _ _ _ us hl => match us, hl with | [_], _ => rfl) (fun cdv A outer s H vs Q E hr h => ?_)
  · obtain ⟨p, c, t, rfl, _⟩ := h
    rfl
  · obtain ⟨p, c, t, rfl, t1, hp, k⟩ := h
    have nd := sc_law_spot.nd
    refine ⟨_, 
      (pss_cons (ps_set (i := 1) nd rfl (Or.inl rfl) (pe_c c_law_draw hr (by rfl) (pa_cons (pv 0) (pa_cons pe_int pa_nil))))
      (pss_one (ps_ret (pe_c c_law_pick hr (by rfl) (pa_cons (pv 0) (pa_cons (pe_lst (pa_cons (pv 1) (pa_cons (pv 1) (pa_cons (pv 1) (pa_cons (pv 1) (pa_cons pe_int (pa_cons (pe_powc (r := 1000000000000000000000000000000) (by decide) ⟨by decide, by decide, by decide⟩) (pa_cons (pe_op op_sub (pe_powc (r := 1000000000000000000000000000000) (by decide) ⟨by decide, by decide, by decide⟩) pe_int) (pa_cons (pe_c c_law_great hr (by rfl) (pa_cons (pv 0) (pa_cons pe_int pa_nil))) pa_nil))))))))) pa_nil)))))), ?_⟩
    walk_at "go"
    refine ⟨p, c, 12, t, rfl, by decide, by decide, by omega, hp, fun z H1 b1 p1 z0 z1 => ?_⟩
    have d1 : Drew K H p c (t + 1) H1 := ⟨b1, p1⟩
    walk_at "go"
    refine ⟨p, c, 30, t + 1, rfl, by decide, by omega, d1.2, fun g H2 d2 g0 g1 => ?_⟩
    have g2 : g < 1000000000000000000000000000000 := g1
    refine ⟨by show 8 ≤ sizeLine; decide, fun q nq => kNew nq fun H3 s3 hq => ?_⟩
    have d3 : Drew K H p c (t + 31) H3 := (d1.trans (d2.mono (by omega))).then s3
    refine ⟨p, c, _, t + 31, rfl, by omega, d3.2, .inl ⟨q, _, rfl, sq_of hq, by simp, by simp, fun v hv H4 d4 => ?_⟩⟩
    have d5 : Drew K H p c (t + 32) H4 := d3.trans (d4.mono (by omega))
    simp only [List.mem_cons, List.not_mem_nil, or_false] at hv
    rcases hv with rfl | rfl | rfl | rfl | rfl | rfl | rfl | rfl
    · exact k _ H4 d5 (by omega) (by omega)
    · exact k _ H4 d5 (by omega) (by omega)
    · exact k _ H4 d5 (by omega) (by omega)
    · exact k _ H4 d5 (by omega) (by omega)
    · exact k _ H4 d5 (by omega) (by omega)
    · exact k _ H4 d5 (by omega) (by omega)
    · exact k _ H4 d5 (by omega) (by omega)
    · exact k _ H4 d5 (by omega) (by omega)
-- 0 _law_pen_here; 1 _law_first; 2 _law_last
theorem cal_span (T : Txt K mg) : Cal P w K mg base 4 "_law_span" (spSpan K 64 70000) := by
  have c_law_spot : Cal P w K mg base 3 "_law_spot" (spSpot K) := cal_spot T
  refine cal_of T.f_law_span T.g_law_span sc_law_span (fun vs H Q E h => ?_) (fun _ _ _ _ _ _ us hl => match us, hl with | [_], _ => rfl) (fun cdv A outer s H vs Q E hr h => ?_)
  · obtain ⟨p, c, t, rfl, _⟩ := h
    rfl
  · obtain ⟨p, c, t, rfl, t1, hp, k⟩ := h
    have nd := sc_law_span.nd
    refine ⟨_, 
      (pss_cons (ps_par (i := 1) (j := 2) rfl nd rfl rfl (by decide) rfl rfl (pa_cons (pe_c c_law_spot hr (by rfl) (pa_cons (pv 0) pa_nil)) (pa_cons (pe_c c_law_spot hr (by rfl) (pa_cons (pv 0) pa_nil)) pa_nil)) (by rfl))
      (pss_one (ps_ret (pe_tup (pa_cons (bB (call_min2 rfl) T.n_min (pa_cons (pv 1) (pa_cons (pv 2) pa_nil))) (pa_cons (bB (call_max2 rfl) T.n_max (pa_cons (pv 1) (pa_cons (pv 2) pa_nil))) pa_nil)))))), ?_⟩
    walk_at "go"
    refine ⟨p, c, t, rfl, by omega, hp, fun x H1 d1 x0 x1 => ?_⟩
    walk_at "go"
    refine ⟨p, c, t + 32, rfl, by omega, d1.2, fun y H2 d2 y0 y1 => ?_⟩
    walk_at "go"
    refine ⟨by show 2 ≤ sizeLine; decide, fun q nq => kNew nq fun H3 s3 hq => ?_⟩
    refine k q _ _ H3 ((d1.trans (d2.mono (by omega))).then s3) ?_ (st_of hq)
    refine ⟨?_, ?_, ?_⟩ <;> (repeat' split) <;> omega
-- 0 _law_pen_here
theorem cal_days (T : Txt K mg) : Cal P w K mg base 5 "_law_days" (spSpan K 65 60000) := by
  have c_law_span : Cal P w K mg base 4 "_law_span" (spSpan K 64 70000) := cal_span T
  have c_law_pick : Cal P w K mg base 2 "_law_pick" (spPick K) := cal_pick T
  refine cal_of T.f_law_days T.g_law_days sc_law_days (fun vs H Q E h => ?_) (fun _ _ _ _ _ _ us hl => match us, hl with | [_], _ => rfl) (fun cdv A outer s H vs Q E hr h => ?_)
  · obtain ⟨p, c, t, rfl, _⟩ := h
    rfl
  · obtain ⟨p, c, t, rfl, t1, hp, k⟩ := h
    have nd := sc_law_days.nd
    refine ⟨_, 
      (pss_one (ps_ret (pe_c c_law_pick hr (by rfl) (pa_cons (pv 0) (pa_cons (pe_lst (pa_cons (pe_tup (pa_cons pe_int (pa_cons (pe_powc (r := 1000000000000000000000000000000) (by decide) ⟨by decide, by decide, by decide⟩) pa_nil))) (pa_cons (pe_tup (pa_cons pe_int (pa_cons (pe_powc (r := 1000000000000000000000000000000) (by decide) ⟨by decide, by decide, by decide⟩) pa_nil))) (pa_cons (pe_c c_law_span hr (by rfl) (pa_cons (pv 0) pa_nil)) pa_nil)))) pa_nil))))), ?_⟩
    walk_at "go"
    refine ⟨by show 2 ≤ sizeLine; decide, fun q1 n1 => kNew n1 fun H1 s1 h1 => ?_⟩
    refine ⟨by show 2 ≤ sizeLine; decide, fun q2 n2 => kNew n2 fun H2 s2 h2 => ?_⟩
    walk_at "go"
    have hp2 := (hp.same s1).same s2
    refine ⟨p, c, t, rfl, by omega, hp2, fun q3 b e H3 d3 ok3 h3 => ?_⟩
    refine ⟨by show 3 ≤ sizeLine; decide, fun q nq => kNew nq fun H4 s4 hq => ?_⟩
    have d4 := ((d3.same s2).same s1).then s4
    have h1' := sq_t s4 (d3.t hp2 (sq_t s2 (st_of h1)))
    have h2' := sq_t s4 (d3.t hp2 (st_of h2))
    have h3' := sq_t s4 h3
    refine ⟨p, c, _, t + 64, rfl, by omega, d4.2, .inl ⟨q, _, rfl, sq_of hq, by simp, by simp, fun v hv H5 d5 => ?_⟩⟩
    have d6 : Drew K H p c (t + 65) H5 := d4.trans (d5.mono (by omega))
    simp only [List.mem_cons, List.not_mem_nil, or_false] at hv
    rcases hv with rfl | rfl | rfl
    · exact k q1 _ _ H5 d6 ⟨by omega, by omega, by omega⟩ (d5.t d4.2 h1')
    · exact k q2 _ _ H5 d6 ⟨by omega, by omega, by omega⟩ (d5.t d4.2 h2')
    · exact k q3 _ _ H5 d6 ok3 (d5.t d4.2 h3')
-- 0 _law_pen_here; 1 _law_span_here
theorem cal_inner (T : Txt K mg) : Cal P w K mg base 3 "_law_inner" (spInner K) := by
  have c_law_great : Cal P w K mg base 2 "_law_great" (spGreat K) := cal_great T
  refine cal_of T.f_law_inner T.g_law_inner sc_law_inner (fun vs H Q E h => ?_) (fun _ _ _ _ _ _ us hl => match us, hl with | [_, _], _ => rfl) (fun cdv A outer s H vs Q E hr h => ?_)
  · obtain ⟨p, c, a, b, e, t, rfl, _⟩ := h
    rfl
  · obtain ⟨p, c, a, b, e, t, rfl, t1, hp, ha, hbe, k⟩ := h
    have nd := sc_law_inner.nd
    refine ⟨_, 
      (pss_one (ps_ret (pe_op op_add (pe_ix ix_tup (pv 1) pe_int (fun _ _ => rfl)) (pe_op op_mod (bT call_int1 T.n_int (pa_cons (pe_c c_law_great hr (by rfl) (pa_cons (pv 0) (pa_cons pe_int pa_nil))) pa_nil)) (pe_op op_add (pe_op op_sub (pe_ix ix_tup (pv 1) pe_int (fun _ _ => rfl)) (pe_ix ix_tup (pv 1) pe_int (fun _ _ => rfl))) pe_int))))), ?_⟩
    walk_at "go"
    refine ⟨a, [.int b, .int e], 0, .int b, rfl, rfl, ha, rfl, ?_⟩
    walk_at "go"
    refine ⟨p, c, 31, t, rfl, by decide, by omega, hp, fun g H1 d1 g0 g1 => ?_⟩
    have ha1 := d1.t hp ha
    walk_at "go"
    refine ⟨a, [.int b, .int e], 1, .int e, rfl, rfl, ha1, rfl, ?_⟩
    walk_at "go"
    refine ⟨a, [.int b, .int e], 0, .int b, rfl, rfl, ha1, rfl, ?_⟩
    walk_at "go"
    have m0 : 0 < e - b + 1 := by omega
    refine ⟨m0, ?_⟩
    walk_at "go"
    obtain ⟨z1, z2⟩ := mod_bd (a := g) m0
    exact k _ H1 d1 (by omega) (by omega)
end
end NC
-- NcDraw3
set_option Elab.async false
set_option linter.all false
set_option maxRecDepth 100000
set_option maxHeartbeats 4000000
namespace NC
local macro_rules | `(tactic| walk_at "go") => `(tactic| (repeat (first
  | (refine ⟨_, rfl, ?_⟩)
  | (refine ⟨_, _, rfl, rfl, ?_⟩)
  | (refine ⟨_, _, rfl, ?_⟩)
  | (refine ⟨_, _, _, rfl, ?_⟩)
  | (refine Or.inl ⟨_, rfl, ?_⟩)
  | (refine iteT ?_)
  | (refine iteF ?_))))
open PySem PySem.Spec PyProof.Rows L2 PySem.W
/-- a list of words at a -/
structure Words (K : PySem.W.Frag) (H : Hp) (a : Addr) (zs : List Str) : Prop where
  sq : SqL K H a (zs.map V.str)
  ne : zs ≠ []
  le : zs.length ≤ 100
  ok : ∀ z ∈ zs, WordOk z
theorem Words.same {K : PySem.W.Frag} {H H' : Hp} {a : Addr} {zs : List Str} (s : Same H H') (h : Words K H a zs) : Words K H' a zs := ⟨sq_l s h.sq, h.ne, h.le, h.ok⟩
theorem Words.drew {K : PySem.W.Frag} {H H' : Hp} {p c a : Addr} {t u : Int} {zs : List Str} (d : Drew K H p c u H') (hp : Pen K H p c t) (h : Words K H a zs) : Words K H' a zs := ⟨d.l hp h.sq, h.ne, h.le, h.ok⟩
theorem Words.pick {K : PySem.W.Frag} {H : Hp} {a : Addr} {zs : List Str} (h : Words K H a zs) {v : V} (hv : v ∈ zs.map V.str) : ∃ z, v = .str z ∧ WordOk z := by
  obtain ⟨z, hz, rfl⟩ := List.mem_map.mp hv
  exact ⟨z, rfl, h.ok z hz⟩
def spPen (K : PySem.W.Frag) : Sp := fun vs H Q _ => ∃ (a : Addr) (ns : List Int), vs = [.ref a] ∧ SqL K H a (ns.map V.int) ∧ ns.length ≤ 63 ∧ ∀ p c H', Same H H' → H p = none → Pen K H' p c 0 → Q (.ref p) H'
def spWords (K : PySem.W.Frag) : Sp := fun vs H Q _ => ∃ (p c : Addr) (n t : Int), vs = [.ref p, .int n] ∧ 1 ≤ n ∧ n ≤ 26 ∧ t ≤ 50000 ∧ Pen K H p c t ∧ ∀ a zs H', Drew K H p c (t + 10) H' → H a = none → H' a = some (.lst (zs.map V.str)) → Words K H' a zs → zs.length ≤ 26 → Q (.ref a) H'
def spChain (K : PySem.W.Frag) : Sp := fun vs H Q _ => ∃ (p c a b : Addr) (ps ws : List Str) (n : Nat) (t : Int), vs = [.ref p, .ref a, .ref b, .int n] ∧ n ≤ 8 ∧ t ≤ 50000 ∧ Pen K H p c t ∧ Words K H a ps ∧ Words K H b ws ∧
  ∀ q x H', Drew K H p c (t + 10) H' → SqT K H' q (x.map V.str) → ChainOk n x → Q (.ref q) H'
def spNaming (K : PySem.W.Frag) : Sp := fun vs H Q _ => ∃ (p c a b : Addr) (ps ws : List Str) (n : Nat) (t : Int), vs = [.ref p, .ref a, .ref b, .int n] ∧ n ≤ 4 ∧ t ≤ 40000 ∧ Pen K H p c t ∧ Words K H a ps ∧ Words K H b ws ∧
  ∀ q x H', Drew K H p c (t + 80) H' → Hd K H' (.ref q) x → PlainOk x → Q (.ref q) H'
theorem chain_mono {m n : Nat} {c : List Str} (h : ChainOk m c) (l : m ≤ n) : ChainOk n c := ⟨h.1, by have := h.2.1; omega, h.2.2⟩
/-! ### texts -/
theorem len_chars (z : Str) : z.length = (chars z).length := Array.length_toList.symm
theorem chars_cut (z : Str) (lo hi : Option Int) : chars (cutS z lo hi) = ((chars z).drop (HT.sIx z.length 0 lo)).take (HT.sIx z.length z.length hi - HT.sIx z.length 0 lo) := by
  unfold cutS
  simp
theorem chars_app (x y : Str) : chars (x ++ y) = chars x ++ chars y := TL.tl_append x y
theorem joinL_nil : ∀ ps : List (List Nat), TL.joinL [] ps = ps.flatten
  | [] => rfl
  | [p] => by simp [TL.joinL]
  | p :: q :: r => by
    have ih := joinL_nil (q :: r)
    simp only [TL.joinL, List.nil_append, ih, List.flatten_cons]
theorem chars_join (ys : List Str) : chars (Txt.join (Str.ofString "") ys) = (ys.map chars).flatten := by
  have e : chars (Txt.join (Str.ofString "") ys) = TL.joinL (chars (Str.ofString "")) (ys.map chars) := by
    rw [TL.join_eq]
    exact TL.tl_join _ _
  rw [e, show chars (Str.ofString "") = [] from by decide +kernel, joinL_nil]
def Low (l : List Nat) : Prop := ∀ c ∈ l, 97 ≤ c ∧ c ≤ 122
theorem low_abc : Low (chars (Str.ofString "abcdefghijklmnopqrstuvwxyz")) := by
  have h : ((chars (Str.ofString "abcdefghijklmnopqrstuvwxyz")).all fun c => decide (97 ≤ c ∧ c ≤ 122)) = true := by decide +kernel
  intro c hc
  exact of_decide_eq_true (List.all_eq_true.mp h c hc)
theorem len_abc : (Str.ofString "abcdefghijklmnopqrstuvwxyz").length = 26 := by decide +kernel
theorem flat_one : ∀ (l : List Str), (∀ z ∈ l, ∃ c, chars z = [c] ∧ 97 ≤ c ∧ c ≤ 122) → (l.map chars).flatten.length = l.length ∧ Low (l.map chars).flatten
  | [], _ => ⟨rfl, fun c hc => by simp at hc⟩
  | z :: l, h => by
    obtain ⟨i1, i2⟩ := flat_one l fun z hz => h z (List.mem_cons_of_mem _ hz)
    obtain ⟨c, e, h1, h2⟩ := h z List.mem_cons_self
    rw [List.map_cons, List.flatten_cons, e]
    refine ⟨by rw [List.length_append, i1]; simp; omega, fun d hd => ?_⟩
    rcases List.mem_append.mp hd with hd | hd
    · have e2 : d = c := by simpa using hd
      rw [e2]
      exact ⟨h1, h2⟩
    · exact i2 d hd
/-- the word made of a stem by one letter more -/
theorem word_made {z : Str} {c at_ : Nat} (hz : Low (chars z)) (hl : z.length ≤ 5) (hc : 97 ≤ c ∧ c ≤ 122) (ha : at_ ≤ z.length) :
    WordOk (cutS z none (some (at_ : Int)) ++ (⟨#[c]⟩ : Str) ++ cutS z (some (at_ : Int)) none) := by
  have e : chars (cutS z none (some (at_ : Int)) ++ (⟨#[c]⟩ : Str) ++ cutS z (some (at_ : Int)) none) = (chars z).take at_ ++ [c] ++ (chars z).drop at_ := by
    rw [chars_app, chars_app, chars_cut, chars_cut]
    have h1 : HT.sIx z.length 0 (some (at_ : Int)) = at_ := by rw [HT.sIx_nat, Nat.min_eq_left ha]
    have h2 : HT.sIx z.length z.length (some (at_ : Int)) = at_ := by rw [HT.sIx_nat, Nat.min_eq_left ha]
    rw [h1, h2, HT.sIx_none, HT.sIx_none, List.drop_zero, Nat.sub_zero]
    rw [show ((chars z).drop at_).take (z.length - at_) = (chars z).drop at_ from List.take_of_length_le (by rw [List.length_drop, ← len_chars]; omega)]
  have hlen : (cutS z none (some (at_ : Int)) ++ (⟨#[c]⟩ : Str) ++ cutS z (some (at_ : Int)) none).length = z.length + 1 := by
    rw [len_chars, e, List.length_append, List.length_append, List.length_take, List.length_drop, ← len_chars]
    simp
    omega
  refine ⟨by omega, by omega, fun d hd => ?_⟩
  rw [show (cutS z none (some (at_ : Int)) ++ (⟨#[c]⟩ : Str) ++ cutS z (some (at_ : Int)) none).cps.toList = _ from e] at hd
  rcases List.mem_append.mp hd with hd | hd
  · rcases List.mem_append.mp hd with hd | hd
    · exact hz d (List.mem_of_mem_take hd)
    · have e2 : d = c := by simpa using hd
      rw [e2]
      exact hc
  · exact hz d (List.mem_of_mem_drop hd)
theorem pen_merge (c : Addr) : mergeK [] (penK c 0 0) = penK c 0 0 := by
  have e1 : putK ([] : List (Key × V)) (Sum.inr "cells") (.ref c) = [((Sum.inr "cells" : Key), V.ref c)] := putK_new _ rfl
  have e2 : putK [((Sum.inr "cells" : Key), V.ref c)] (Sum.inr "turn") (.int 0) = [((Sum.inr "cells" : Key), V.ref c), ((Sum.inr "turn" : Key), V.int 0)] := putK_new _ (by rw [valV_neg k_ct]; rfl)
  have e3 : putK [((Sum.inr "cells" : Key), V.ref c), ((Sum.inr "turn" : Key), V.int 0)] (Sum.inr "left") (.int 0) = penK c 0 0 := putK_new _ (by rw [valV_neg k_cl, valV_neg k_tl]; rfl)
  show putK (putK (putK ([] : List (Key × V)) (Sum.inr "cells" : Key) (.ref c)) (Sum.inr "turn" : Key) (.int 0)) (Sum.inr "left" : Key) (.int 0) = _
  rw [e1, e2, e3]
abbrev NN_law_pen : List Str := ["_law_script"]
theorem sc_law_pen : FnScope NN_law_pen ["_law_script"] (defScope s_law_pen) := ⟨rfl, rfl, rfl, by decide +kernel, rfl, by decide +kernel, by decide +kernel⟩
abbrev NN_law_words : List Str := ["_law_pen_here", "_law_many", "_law_letters", "_law_stem", "_law_k", "_law_at", "_law_first", "_law_step"]
theorem sc_law_words : FnScope NN_law_words ["_law_pen_here", "_law_many"] (defScope s_law_words) := ⟨rfl, rfl, rfl, by decide +kernel, rfl, by decide +kernel, by decide +kernel⟩
abbrev NN_law_chain : List Str := ["_law_pen_here", "_law_people", "_law_words_here", "_law_top", "_law_many", "_law_k"]
theorem sc_law_chain : FnScope NN_law_chain ["_law_pen_here", "_law_people", "_law_words_here", "_law_top"] (defScope s_law_chain) := ⟨rfl, rfl, rfl, by decide +kernel, rfl, by decide +kernel, by decide +kernel⟩
abbrev NN_law_naming : List Str := ["_law_pen_here", "_law_people", "_law_words_here", "_law_top", "_law_who", "_law_word"]
theorem sc_law_naming : FnScope NN_law_naming ["_law_pen_here", "_law_people", "_law_words_here", "_law_top"] (defScope s_law_naming) := ⟨rfl, rfl, rfl, by decide +kernel, rfl, by decide +kernel, by decide +kernel⟩
section
variable {P : Program} {w : World} {K : PySem.W.Frag} {mg : Str → Option Value} {base : Heap}
-- 0 _law_script
theorem cal_pen (T : Txt K mg) : Cal P w K mg base 1 "_law_pen" (spPen K) := by
  refine cal_of T.f_law_pen T.g_law_pen sc_law_pen (fun vs H Q E h => ?_) (fun _ _ _ _ _ _ us hl => match us, hl with | [_], _ => rfl) (fun cdv A outer s H vs Q E hr h => ?_)
  · obtain ⟨a, ns, rfl, _⟩ := h
    rfl
  · obtain ⟨a, ns, rfl, ha, hl, k⟩ := h
    refine ⟨_, 
      (pss_one (ps_ret (pe_disp (pps_cons pe_str (bT call_list_of T.n_list (pa_cons (pe_slice sl_list (pv 0) po_none (po_some pe_int)) pa_nil)) (pps_cons pe_str pe_int (pps_cons pe_str pe_int pps_nil))) (by rfl) (by rfl) (fun z => by cases z) (by decide)))), ?_⟩
    intro p np
    refine kNew np fun H1 s1 h1 => ?_
    walk_at "go"
    refine ⟨a, ns.map V.int, rfl, sq_l s1 ha, fun q nq => kNew nq fun H2 s2 h2 => ?_⟩
    refine ⟨q, _, rfl, .inl (sq_of h2), fun r nr => kNew nr fun H3 s3 h3 => ?_⟩
    have e : cutV (ns.map V.int) none (some 63) = ns.map V.int := by
      unfold cutV
      rw [HT.sIx_none, List.drop_zero, show (some (63 : Int)) = some ((63 : Nat) : Int) from rfl, HT.sIx_nat, List.take_of_length_le (by rw [List.length_map]; omega)]
    rw [e] at h3
    refine ⟨s3 _ _ (s2 _ _ h1), penK r 0 0, rfl, (by show 3 ≤ 15; decide), kPut fun H4 w4 h4 => ?_⟩
    rw [pen_merge] at h4
    have s4 : Same H H4 := But.new ((s1.trans s2).trans s3) w4 np
    exact k p r H4 s4 np ⟨ns, 0, 0, h4, bt_ll w4 (s3 _ _ (s2 _ _ h1)) h3, by omega, by omega, by omega⟩
-- 0 _law_pen_here; 1 _law_many; 2 _law_letters; 3 _law_stem; 4 _law_k; 5 _law_at; 6 _law_first; 7 _law_step
theorem cal_words (T : Txt K mg) : Cal P w K mg base 3 "_law_words" (spWords K) := by
  have c_law_draw : Cal P w K mg base 1 "_law_draw" (spDraw K) := cal_draw T
  have c_law_pick : Cal P w K mg base 2 "_law_pick" (spPick K) := cal_pick T
  refine cal_of T.f_law_words T.g_law_words sc_law_words (fun vs H Q E h => ?_) (fun _ _ _ _ _ _ us hl => match us, hl with | [_, _], _ => rfl) (fun cdv A outer s H vs Q E hr h => ?_)
  · obtain ⟨p, c, n, t, rfl, _⟩ := h
    rfl
  · obtain ⟨p, c, n, t, rfl, n0, n1, t1, hp, k⟩ := h
    have nd := sc_law_words.nd
    refine ⟨_, 
      (pss_cons (ps_set (i := 2) nd rfl (Or.inr rfl) pe_str)
      (pss_cons (ps_set (i := 3) nd rfl (Or.inr rfl) (pe_join pe_str (pe_lc (own := [("_law_k", 4)]) rfl nd (pi_range1 (by rfl) T.n_range (pa_cons (pe_c c_law_draw hr (by rfl) (pa_cons (pv 0) (pa_cons pe_int pa_nil))) pa_nil)) (blkOk_by (N := NN_law_words) (sc := defScope s_law_words) (by decide +kernel)) (fun _ _ _ _ _ => (pg_name (i := 4) nd rfl (Or.inl rfl))) (fun _ _ _ _ _ => pts_nil) (fun _ _ _ _ _ => (pe_c c_law_pick hr (by rfl) (pa_cons (pv 0) (pa_cons (pv 2) pa_nil)))))))
      (pss_cons (ps_asg (pe_tup (pa_cons (pe_c c_law_draw hr (by rfl) (pa_cons (pv 0) (pa_cons (pe_op op_add (bB call_len T.n_len (pa_cons (pv 3) pa_nil)) pe_int) pa_nil))) (pa_cons (pe_c c_law_draw hr (by rfl) (pa_cons (pv 0) (pa_cons pe_int pa_nil))) (pa_cons (pe_c c_law_pick hr (by rfl) (pa_cons (pv 0) (pa_cons (pe_lst (pa_cons pe_int (pa_cons pe_int (pa_cons pe_int (pa_cons pe_int (pa_cons pe_int (pa_cons pe_int pa_nil))))))) pa_nil))) pa_nil)))) (pg_tup rfl (pgs_cons (pg_name (i := 5) nd rfl (Or.inr rfl)) (pgs_cons (pg_name (i := 6) nd rfl (Or.inr rfl)) (pgs_cons (pg_name (i := 7) nd rfl (Or.inr rfl)) pgs_nil)))))
      (pss_one (ps_ret (pe_slice sl_list (pe_lc (own := [("_law_k", 4)]) rfl nd (pi_range1 (by rfl) T.n_range (pa_cons pe_int pa_nil)) (blkOk_by (N := NN_law_words) (sc := defScope s_law_words) (by decide +kernel)) (fun _ _ _ _ _ => (pg_name (i := 4) nd rfl (Or.inl rfl))) (fun _ _ _ _ _ => pts_nil) (fun _ _ _ _ _ => (pe_op op_add_str (pe_op op_add_str (pe_slice sl_str (pv 3) po_none (po_some (pv 5))) (pe_ix ix_str (pv 2) (pe_op op_mod (bT call_int1 T.n_int (pa_cons (pe_op op_add (pv 6) (pe_op op_mul (pv 7) (pv 4))) pa_nil)) pe_int) (fun _ _ => rfl))) (pe_slice sl_str (pv 3) (po_some (pv 5)) po_none)))) po_none (po_some (pv 1)))))))), ?_⟩
    walk_at "go"
    refine ⟨⟨_, rfl⟩, ?_⟩
    walk_at "go"
    refine ⟨p, c, 6, t, rfl, by decide, by decide, by omega, hp, fun m H1 b1 p1 m0 m1 => ?_⟩
    have d1 : Drew K H p c (t + 1) H1 := ⟨b1, p1⟩
    walk_at "go"
    -- the stem
    refine ⟨by omega, by omega, fun D nD => ?_⟩
    have nD0 := d1.new nD
    refine lc_range (lo := 0) (n := m.toNat) (fun i H' => ∃ zs : List Str, H' D = some (.lst (zs.map V.str)) ∧ zs.length = i ∧ (∀ z ∈ zs, ∃ x, chars z = [x] ∧ 97 ≤ x ∧ x ≤ 122) ∧ Drew K H p c (t + 1 + i) H') ?_ ?_ ?_
    · exact kNew nD fun H2 s2 h2 => ⟨[], h2, rfl, by simp, (d1.then s2).mono (by omega)⟩
    · rintro i H2 hi ⟨zs, hD, hl, hz, d2⟩
      refine ⟨rfl, ?_⟩
      walk_at "go"
      refine ⟨p, c, _, t + 1 + i, rfl, by omega, d2.2, .inr ⟨_, rfl, by rw [len_abc]; decide, by rw [len_abc]; decide, fun x hx H3 d3 => ?_⟩⟩
      have hD3 := d3.o d2.2 hD (by intro kvs z; cases z)
      have d4 := d2.trans (d3.mono (u := t + 1 + (i + 1 : Nat)) (by omega))
      refine ⟨_, hD3, by rw [List.length_map]; exact sz_lt (by omega), kPut fun H4 w4 h4 => ⟨zs ++ [⟨#[x]⟩], ?_, ?_, ?_, d4.put hp nD0 w4⟩⟩
      · rw [List.map_append]
        exact h4
      · rw [List.length_append, hl]
        rfl
      · intro z hz'
        rcases List.mem_append.mp hz' with hz' | hz'
        · exact hz z hz'
        · have e : z = ⟨#[x]⟩ := by simpa using hz'
          rw [e]
          exact ⟨x, rfl, low_abc x hx⟩
    · rintro H2 ⟨zs, hD, hl, hz, d2⟩
      obtain ⟨l1, l2⟩ := flat_one zs hz
      have lens : (zs.map (·.length)).sum = zs.length := by
        rw [← l1, List.length_flatten, List.map_map]
        congr 1
      refine ⟨_, D, zs, rfl, rfl, .inl (sq_of hD), ?_, ?_⟩
      · rw [lens]
        show zs.length + zs.length * 0 ≤ 16777216
        omega
      have ej := chars_join zs
      have hj : (Txt.join (Str.ofString "") zs).length = m.toNat := by rw [len_chars, ej, l1, hl]
      have hlow : Low (chars (Txt.join (Str.ofString "") zs)) := by rw [ej]; exact l2
      generalize Txt.join (Str.ofString "") zs = stem at hj hlow
      clear ej lens l1 l2 hz hl hD
      walk_at "go"
      -- at, first, step
      refine ⟨_, stem.length, rfl, ⟨sz_of (by omega), rfl⟩, ?_⟩
      walk_at "go"
      refine ⟨p, c, _, t + 1 + m.toNat, rfl, by omega, by omega, by omega, d2.2, fun at_ H3 b3 p3 at0 at1 => ?_⟩
      have d3 : Drew K H p c (t + 1 + m.toNat + 1) H3 := d2.trans ⟨b3, p3⟩
      walk_at "go"
      refine ⟨p, c, 26, t + 1 + m.toNat + 1, rfl, by decide, by decide, by omega, d3.2, fun fi H4 b4 p4 fi0 fi1 => ?_⟩
      have d4 : Drew K H p c (t + 1 + m.toNat + 2) H4 := d3.trans ⟨b4, by rw [show t + 1 + (m.toNat : Int) + 2 = t + 1 + m.toNat + 1 + 1 by omega]; exact p4⟩
      walk_at "go"
      refine ⟨by show 6 ≤ sizeLine; decide, fun q nq => kNew nq fun H5 s5 hq => ?_⟩
      have d5 := d4.then s5
      refine ⟨p, c, _, t + 1 + m.toNat + 2, rfl, by omega, d5.2, .inl ⟨q, _, rfl, sq_of hq, by simp, by simp, fun v hv H6 d6 => ?_⟩⟩
      have d7 := d5.trans (d6.mono (u := t + 10) (by omega))
      obtain ⟨sp, rfl, sp0, sp1⟩ : ∃ sp : Int, v = .int sp ∧ 0 ≤ sp ∧ sp ≤ 11 := by
        simp only [List.mem_cons, List.not_mem_nil, or_false] at hv
        rcases hv with rfl | rfl | rfl | rfl | rfl | rfl <;> exact ⟨_, rfl, by decide, by decide⟩
      refine ⟨by show 3 ≤ sizeLine; decide, fun q2 nq2 => kNew nq2 fun H7 s7 hq2 => ?_⟩
      have d8 := d7.then s7
      refine ⟨q2, _, rfl, st_of hq2, rfl, _, _, rfl, _, _, rfl, _, _, rfl, rfl, ?_⟩
      walk_at "go"
      clear hq2 hq nq nq2 b3 p3 b4 p4
      refine ⟨by omega, by omega, fun D2 nD2 => ?_⟩
      have nD20 := d8.new nD2
      refine lc_range (lo := 0) (n := 26) (fun i H' => ∃ zs : List Str, H' D2 = some (.lst (zs.map V.str)) ∧ zs.length = i ∧ (∀ z ∈ zs, WordOk z) ∧ Drew K H p c (t + 10) H') ?_ ?_ ?_
      · exact kNew nD2 fun H8 s8 h8 => ⟨[], h8, rfl, by simp, d8.then s8⟩
      · rintro i H8 hi ⟨zs, hD8, hl, hz, d9⟩
        refine ⟨rfl, ?_⟩
        walk_at "go"
        have sl : stem.length ≤ sizeLine := sz_of (by omega)
        refine ⟨sl, ?_⟩
        walk_at "go"
        refine ⟨.inl (by omega), ?_⟩
        walk_at "go"
        obtain ⟨z1, z2⟩ := mod_bd (a := fi + sp * (0 + (i : Int))) (b := 26) (by decide)
        have hlet : ((fi + sp * (0 + (i : Int))) % 26).toNat < (chars (Str.ofString "abcdefghijklmnopqrstuvwxyz")).length := by
          rw [← len_chars, len_abc]
          omega
        refine ⟨by show (0 : Int) < 26; decide, _, _, _, rfl, rfl, by rw [len_abc]; decide, at_nat z1 (List.getElem?_eq_getElem hlet), ?_⟩
        walk_at "go"
        have lc1 : (cutS stem none (some at_)).length ≤ 5 := Nat.le_trans (cutS_length _ _ _) (by omega)
        have lc2 : (cutS stem (some at_) none).length ≤ 5 := Nat.le_trans (cutS_length _ _ _) (by omega)
        refine ⟨sz_of (by show _ + 1 ≤ _; omega), ?_⟩
        walk_at "go"
        refine ⟨sl, ?_⟩
        walk_at "go"
        have wm := word_made (z := stem) (c := (chars (Str.ofString "abcdefghijklmnopqrstuvwxyz"))[((fi + sp * (0 + (i : Int))) % 26).toNat]) (at_ := at_.toNat) hlow (by omega) (low_abc _ (List.getElem_mem hlet)) (by omega)
        have la : (cutS stem none (some at_) ++ (⟨#[(chars (Str.ofString "abcdefghijklmnopqrstuvwxyz"))[((fi + sp * (0 + (i : Int))) % 26).toNat]]⟩ : Str)).length ≤ 6 := by
          rw [len_chars, chars_app, List.length_append, ← len_chars]
          show _ + 1 ≤ 6
          omega
        refine ⟨sz_of (by omega), ?_⟩
        rw [show ((at_.toNat : Nat) : Int) = at_ by omega] at wm
        refine ⟨_, hD8, by rw [List.length_map]; exact sz_lt (by omega), kPut fun H9 w9 h9 => ⟨zs ++ [_], by rw [List.map_append]; exact h9, by rw [List.length_append, hl]; rfl, ?_, d9.put hp nD20 w9⟩⟩
        intro z hz'
        rcases List.mem_append.mp hz' with hz' | hz'
        · exact hz z hz'
        · rw [List.mem_singleton.mp hz']
          exact wm
      · rintro H8 ⟨zs, hD8, hl, hz, d9⟩
        walk_at "go"
        refine ⟨D2, zs.map V.str, rfl, sq_of hD8, fun r nr => kNew nr fun H9 s9 h9 => ?_⟩
        have e : cutV (zs.map V.str) none (some n) = (zs.take n.toNat).map V.str := by
          unfold cutV
          rw [HT.sIx_none, List.drop_zero, show (some n) = some ((n.toNat : Nat) : Int) by rw [show ((n.toNat : Nat) : Int) = n by omega], HT.sIx_nat, List.length_map, hl, Nat.min_eq_left (by omega), Nat.sub_zero, List.map_take]
        rw [e] at h9
        have hlen : (zs.take n.toNat).length = n.toNat := by rw [List.length_take, hl]; omega
        refine k r (zs.take n.toNat) H9 (d9.then s9) (d9.new nr) h9 ⟨sq_of h9, fun z => ?_, by omega, fun z hz' => hz z (List.mem_of_mem_take hz')⟩ (by omega)
        rw [z] at hlen
        simp at hlen
        omega
-- 0 _law_pen_here; 1 _law_people; 2 _law_words_here; 3 _law_top; 4 _law_many; 5 _law_k
theorem cal_chain (T : Txt K mg) : Cal P w K mg base 3 "_law_chain" (spChain K) := by
  have c_law_draw : Cal P w K mg base 1 "_law_draw" (spDraw K) := cal_draw T
  have c_law_pick : Cal P w K mg base 2 "_law_pick" (spPick K) := cal_pick T
  refine cal_of T.f_law_chain T.g_law_chain sc_law_chain (fun vs H Q E h => ?_) (fun _ _ _ _ _ _ us hl => match us, hl with | [_, _, _, _], _ => rfl) (fun cdv A outer s H vs Q E hr h => ?_)
  · obtain ⟨p, c, a, b, ps, ws, n, t, rfl, _⟩ := h
    rfl
  · obtain ⟨p, c, a, b, ps, ws, n, t, rfl, n1, t1, hp, ha, hb, k⟩ := h
    have nd := sc_law_chain.nd
    refine ⟨_, 
      (pss_cons (ps_set (i := 4) nd rfl (Or.inl rfl) (pe_c c_law_draw hr (by rfl) (pa_cons (pv 0) (pa_cons (pe_op op_add (pv 3) pe_int) pa_nil))))
      (pss_one (ps_ret (pe_op op_catA (pe_tup (pa_cons (pe_c c_law_pick hr (by rfl) (pa_cons (pv 0) (pa_cons (pv 1) pa_nil))) pa_nil)) (bT call_tuple_of T.n_tuple (pa_cons (pe_lc (own := [("_law_k", 5)]) rfl nd (pi_range1 (by rfl) T.n_range (pa_cons (pv 4) pa_nil)) (blkOk_by (N := NN_law_chain) (sc := defScope s_law_chain) (by decide +kernel)) (fun _ _ _ _ _ => (pg_name (i := 5) nd rfl (Or.inl rfl))) (fun _ _ _ _ _ => pts_nil) (fun _ _ _ _ _ => (pe_c c_law_pick hr (by rfl) (pa_cons (pv 0) (pa_cons (pv 2) pa_nil))))) pa_nil)))))), ?_⟩
    walk_at "go"
    refine ⟨p, c, _, t, rfl, by omega, by omega, by omega, hp, fun m H1 b1 p1 m0 m1 => ?_⟩
    have d1 : Drew K H p c (t + 1) H1 := ⟨b1, p1⟩
    walk_at "go"
    refine ⟨p, c, _, t + 1, rfl, by omega, d1.2, .inl ⟨a, _, rfl, (ha.drew d1 hp).sq, by simp [ha.ne], by rw [List.length_map]; have := ha.le; omega, fun v hv H2 d2 => ?_⟩⟩
    obtain ⟨z0, rfl, hz0⟩ := ha.pick hv
    have d3 := d1.trans d2
    refine ⟨by show 1 ≤ sizeLine; decide, fun q nq => kNew nq fun H3 s3 hq => ?_⟩
    have d4 := d3.then s3
    walk_at "go"
    refine ⟨by omega, by omega, fun D nD => ?_⟩
    have nD0 := d4.new nD
    have nqD : q ≠ D := ne_of_none hq nD
    refine lc_range (lo := 0) (n := m.toNat) (fun i H' => ∃ zs : List Str, H' D = some (.lst (zs.map V.str)) ∧ H' q = some (.tup [.str z0]) ∧ zs.length = i ∧ (∀ z ∈ zs, WordOk z) ∧ Drew K H p c (t + 1 + 1 + i) H') ?_ ?_ ?_
    · exact kNew nD fun H4 s4 h4 => ⟨[], h4, s4 _ _ hq, rfl, by simp, (d4.then s4).mono (by omega)⟩
    · rintro i H4 hi ⟨zs, hD, hq4, hl, hz, d5⟩
      refine ⟨rfl, ?_⟩
      walk_at "go"
      refine ⟨p, c, _, _, rfl, by omega, d5.2, .inl ⟨b, _, rfl, (hb.drew d5 hp).sq, by simp [hb.ne], by rw [List.length_map]; have := hb.le; omega, fun v hv H5 d6 => ?_⟩⟩
      obtain ⟨z, rfl, hz1⟩ := hb.pick hv
      have hD5 := d6.o d5.2 hD (by intro kvs z; cases z)
      have hq5 := d6.o d5.2 hq4 (by intro kvs z; cases z)
      refine ⟨_, hD5, by rw [List.length_map]; exact sz_lt (by omega), kPut fun H6 w6 h6 => ⟨zs ++ [z], by rw [List.map_append]; exact h6, w6 _ _ nqD hq5, by rw [List.length_append, hl]; rfl, ?_, ((d5.trans d6).mono (by omega)).put hp nD0 w6⟩⟩
      intro y hy
      rcases List.mem_append.mp hy with hy | hy
      · exact hz y hy
      · rw [List.mem_singleton.mp hy]
        exact hz1
    · rintro H4 ⟨zs, hD, hq4, hl, hz, d5⟩
      refine ⟨D, zs.map V.str, rfl, .inl ⟨sq_of hD, fun r nr => kNew nr fun H5 s5 h5 => ?_⟩⟩
      have d6 := (d5.then s5).mono (u := t + 10) (by omega)
      have ok : ChainOk n (z0 :: zs) := ⟨by simp, by rw [List.length_cons]; omega, fun y hy => (List.mem_cons.mp hy).elim (fun e => e ▸ hz0) (hz y)⟩
      refine ⟨q, r, [.str z0], zs.map V.str, rfl, rfl, st_of (s5 _ _ hq4), st_of h5, sz_of (by rw [List.length_map]; show 1 + zs.length ≤ _; omega), fun z => (nomatch z), fun _ e => ?_, fun _ _ u nu => kNew nu fun H6 s6 h6 => ?_⟩
      · have e2 : zs = [] := List.map_eq_nil_iff.mp e
        exact k q [z0] H5 d6 (st_of (s5 _ _ hq4)) (by rw [e2] at ok; exact ok)
      · exact k u (z0 :: zs) H6 (d6.then s6) (st_of h6) ok
-- 0 _law_pen_here; 1 _law_people; 2 _law_words_here; 3 _law_top; 4 _law_who; 5 _law_word
theorem cal_naming (T : Txt K mg) : Cal P w K mg base 6 "_law_naming" (spNaming K) := by
  have c_law_pick : Cal P w K mg base 2 "_law_pick" (spPick K) := cal_pick T
  have c_law_chain : Cal P w K mg base 3 "_law_chain" (spChain K) := cal_chain T
  have c_law_days : Cal P w K mg base 5 "_law_days" (spSpan K 65 60000) := cal_days T
  refine cal_of T.f_law_naming T.g_law_naming sc_law_naming (fun vs H Q E h => ?_) (fun _ _ _ _ _ _ us hl => match us, hl with | [_, _, _, _], _ => rfl) (fun cdv A outer s H vs Q E hr h => ?_)
  · obtain ⟨p, c, a, b, ps, ws, n, t, rfl, _⟩ := h
    rfl
  · obtain ⟨p, c, a, b, ps, ws, n, t, rfl, n1, t1, hp, ha, hb, k⟩ := h
    have nd := sc_law_naming.nd
    refine ⟨_, 
      (pss_cons (ps_par (i := 4) (j := 5) rfl nd rfl rfl (by decide) rfl rfl (pa_cons (pe_c c_law_pick hr (by rfl) (pa_cons (pv 0) (pa_cons (pv 1) pa_nil))) (pa_cons (pe_c c_law_pick hr (by rfl) (pa_cons (pv 0) (pa_cons (pv 2) pa_nil))) pa_nil)) (by rfl))
      (pss_one (ps_ret (pe_tup (pa_cons pe_str (pa_cons (pv 4) (pa_cons (pv 5) (pa_cons (pe_c c_law_chain hr (by rfl) (pa_cons (pv 0) (pa_cons (pv 1) (pa_cons (pv 2) (pa_cons (pv 3) pa_nil))))) (pa_cons (pe_c c_law_days hr (by rfl) (pa_cons (pv 0) pa_nil)) pa_nil))))))))), ?_⟩
    walk_at "go"
    refine ⟨p, c, _, t, rfl, by omega, hp, .inl ⟨a, _, rfl, ha.sq, by simp [ha.ne], by rw [List.length_map]; have := ha.le; omega, fun v hv H1 d1 => ?_⟩⟩
    obtain ⟨who, rfl, hwho⟩ := ha.pick hv
    walk_at "go"
    refine ⟨p, c, _, t + 1, rfl, by omega, d1.2, .inl ⟨b, _, rfl, (hb.drew d1 hp).sq, by simp [hb.ne], by rw [List.length_map]; have := hb.le; omega, fun v hv H2 d2 => ?_⟩⟩
    obtain ⟨word, rfl, hword⟩ := hb.pick hv
    have d3 := d1.trans d2
    walk_at "go"
    refine ⟨p, c, a, b, ps, ws, n, t + 1 + 1, rfl, by omega, by omega, d3.2, ha.drew d3 hp, hb.drew d3 hp, fun q x H3 d4 hq ok => ?_⟩
    have d5 := d3.trans d4
    walk_at "go"
    refine ⟨p, c, t + 1 + 1 + 10, rfl, by omega, d5.2, fun r b0 e0 H4 d6 okd hr4 => ?_⟩
    have d7 := d5.trans d6
    have hq4 := d6.t d5.2 hq
    refine ⟨by show 5 ≤ sizeLine; decide, fun u nu => kNew nu fun H5 s5 hu5 => ?_⟩
    refine k u (.nam who word x b0 e0) H5 ((d7.then s5).mono (by omega)) ?_ ⟨hwho, hword, chain_mono ok (by omega), okd⟩
    exact .tup (st_of hu5) (.cons (.str _) (.cons (.str _) (.cons (.str _) (.cons (hd_strsT (sq_t s5 hq4)) (.cons (.tup (sq_t s5 hr4) (.cons (.int _) (.cons (.int _) .nil))) .nil)))))
end
end NC
-- NcDraw4
set_option Elab.async false
set_option linter.all false
set_option maxRecDepth 100000
set_option maxHeartbeats 4000000
namespace NC
local macro_rules | `(tactic| walk_at "go") => `(tactic| (repeat (first
  | (refine ⟨_, rfl, ?_⟩)
  | (refine ⟨_, _, rfl, rfl, ?_⟩)
  | (refine ⟨_, _, rfl, ?_⟩)
  | (refine ⟨_, _, _, rfl, ?_⟩)
  | (refine Or.inl ⟨_, rfl, ?_⟩)
  | (refine iteT ?_)
  | (refine iteF ?_))))
open PySem PySem.Spec PyProof.Rows L2 PySem.W
def spSubject (K : PySem.W.Frag) : Sp := fun vs H Q _ => ∃ (p c a b : Addr) (ps ws : List Str) (n : Nat) (t : Int), vs = [.ref p, .ref a, .ref b, .int n] ∧ n ≤ 4 ∧ t ≤ 40000 ∧ Pen K H p c t ∧ Words K H a ps ∧ Words K H b ws ∧
  ∀ q (x : Subj) H', Drew K H p c (t + 50) H' → Hd K H' (.ref q) x → SubjOk x → Q (.ref q) H'
def spLeave (K : PySem.W.Frag) : Sp := fun vs H Q _ => ∃ (p c a b : Addr) (ps ws : List Str) (n : Nat) (t : Int), vs = [.ref p, .ref a, .ref b, .int n] ∧ n ≤ 4 ∧ t ≤ 30000 ∧ Pen K H p c t ∧ Words K H a ps ∧ Words K H b ws ∧
  ∀ q x H', Drew K H p c (t + 190) H' → Hd K H' (.ref q) x → PlainOk x → Q (.ref q) H'
/-- the plain book at q: its statements, all unlike -/
structure Book0 (K : PySem.W.Frag) (H : Hp) (q : Addr) (vs : List V) (ps : List Plain) : Prop where
  at_ : H q = some (.lst vs)
  hd : HdAll K H vs ps
  nd : ps.Nodup
  ok : ∀ x ∈ ps, PlainOk x
def spPlain (K : PySem.W.Frag) : Sp := fun vs H Q _ => ∃ (p c a b : Addr) (ps ws : List Str) (m n : Nat) (t : Int), vs = [.ref p, .ref a, .ref b, .int m, .int n] ∧ m ≤ 4 ∧ n ≤ 4 ∧ t ≤ 20000 ∧ Pen K H p c t ∧ Words K H a ps ∧ Words K H b ws ∧
  ∀ q us xs H', Drew K H p c (t + 800) H' → H q = none → Book0 K H' q us xs → xs.length ≤ 4 → Q (.ref q) H'
def spTown (K : PySem.W.Frag) : Sp := fun vs H Q _ => ∃ (p c : Addr) (n : Nat) (t : Int), vs = [.ref p, .int 4, .int n] ∧ n ≤ 4 ∧ t ≤ 19000 ∧ Pen K H p c t ∧
  ∀ u a b q ps ws us xs H', Drew K H p c (t + 900) H' → SqT K H' u [.ref a, .ref b, .ref q] → H' a = some (.lst (ps.map V.str)) → Words K H' a ps → H' b = some (.lst (ws.map V.str)) → Words K H' b ws → ps.length ≤ 26 → ws.length ≤ 26 → Book0 K H' q us xs → xs.length ≤ 4 → Q (.ref u) H'
def spAsked (K : PySem.W.Frag) : Sp := fun vs H Q _ => ∃ (p c a b : Addr) (ps ws : List Str) (t : Int), vs = [.ref p, .ref a, .ref b] ∧ t ≤ 19000 ∧ Pen K H p c t ∧ H a = some (.lst (ps.map V.str)) ∧ Words K H a ps ∧ H b = some (.lst (ws.map V.str)) ∧ Words K H b ws ∧ ps.length ≤ 26 ∧ ws.length ≤ 26 ∧
  ∀ q x H', Drew K H p c (t + 20) H' → SqT K H' q (x.map V.str) → ChainOk 8 x → Q (.ref q) H'
theorem book0_put {K : PySem.W.Frag} {H H' : Hp} {q : Addr} {vs : List V} {ps : List Plain} {v : V} {x : Plain} (b : Book0 K H q vs ps) (hx : Hd K H v x) (ok : PlainOk x) (n : x ∉ ps) (w : But q H H') (h : H' q = some (.lst (vs ++ [v]))) : Book0 K H' q (vs ++ [v]) (ps ++ [x]) := by
  refine ⟨h, hdAll_app (b.hd.butF w b.at_) (hdAll_cons (hx.butF w b.at_) hdAll_nil), List.nodup_append.mpr ⟨b.nd, by simp, fun y hy z hz e => ?_⟩, fun y hy => ?_⟩
  · rw [List.mem_singleton.mp hz] at e
    exact n (e ▸ hy)
  · rcases List.mem_append.mp hy with hy | hy
    · exact b.ok y hy
    · rw [List.mem_singleton.mp hy]
      exact ok
theorem word_stranger : WordOk (Str.ofString "stranger") := by
  refine ⟨by decide +kernel, by decide +kernel, fun c hc => ?_⟩
  have h : ((chars (Str.ofString "stranger")).all fun c => decide (97 ≤ c ∧ c ≤ 122)) = true := by decide +kernel
  exact of_decide_eq_true (List.all_eq_true.mp h c hc)
theorem word_nothing : WordOk (Str.ofString "nothing") := by
  refine ⟨by decide +kernel, by decide +kernel, fun c hc => ?_⟩
  have h : ((chars (Str.ofString "nothing")).all fun c => decide (97 ≤ c ∧ c ≤ 122)) = true := by decide +kernel
  exact of_decide_eq_true (List.all_eq_true.mp h c hc)
theorem Words.snoc {K : PySem.W.Frag} {H H' : Hp} {a b : Addr} {zs : List Str} {z : Str} (h : Words K H a zs) (hz : WordOk z) (l : zs.length ≤ 99) (e : H' b = some (.lst (zs.map V.str ++ [V.str z]))) : Words K H' b (zs ++ [z]) :=
  ⟨by rw [List.map_append]; exact sq_of e, by simp, by rw [List.length_append]; simp; omega, fun y hy => (List.mem_append.mp hy).elim (h.ok y) fun q => by rw [List.mem_singleton.mp q]; exact hz⟩
abbrev NN_law_subject : List Str := ["_law_pen_here", "_law_people", "_law_words_here", "_law_top", "_law_found", "_law_k", "_law_some"]
theorem sc_law_subject : FnScope NN_law_subject ["_law_pen_here", "_law_people", "_law_words_here", "_law_top"] (defScope s_law_subject) := ⟨rfl, rfl, rfl, by decide +kernel, rfl, by decide +kernel, by decide +kernel⟩
abbrev NN_law_leave : List Str := ["_law_pen_here", "_law_people", "_law_words_here", "_law_top", "_law_goal", "_law_often"]
theorem sc_law_leave : FnScope NN_law_leave ["_law_pen_here", "_law_people", "_law_words_here", "_law_top"] (defScope s_law_leave) := ⟨rfl, rfl, rfl, by decide +kernel, rfl, by decide +kernel, by decide +kernel⟩
abbrev NN_law_plain_book : List Str := ["_law_pen_here", "_law_people", "_law_words_here", "_law_many", "_law_top", "_law_found", "_law_k", "_law_make", "_law_plain"]
theorem sc_law_plain_book : FnScope NN_law_plain_book ["_law_pen_here", "_law_people", "_law_words_here", "_law_many", "_law_top"] (defScope s_law_plain_book) := ⟨rfl, rfl, rfl, by decide +kernel, rfl, by decide +kernel, by decide +kernel⟩
abbrev NN_law_town : List Str := ["_law_pen_here", "_law_many", "_law_top", "_law_people", "_law_words_here"]
theorem sc_law_town : FnScope NN_law_town ["_law_pen_here", "_law_many", "_law_top"] (defScope s_law_town) := ⟨rfl, rfl, rfl, by decide +kernel, rfl, by decide +kernel, by decide +kernel⟩
abbrev NN_law_asked : List Str := ["_law_pen_here", "_law_people", "_law_words_here", "_law_some"]
theorem sc_law_asked : FnScope NN_law_asked ["_law_pen_here", "_law_people", "_law_words_here"] (defScope s_law_asked) := ⟨rfl, rfl, rfl, by decide +kernel, rfl, by decide +kernel, by decide +kernel⟩
section
variable {P : Program} {w : World} {K : PySem.W.Frag} {mg : Str → Option Value} {base : Heap}
-- 0 _law_pen_here; 1 _law_people; 2 _law_words_here; 3 _law_top; 4 _law_found; 5 _law_k; 6 _law_some
theorem cal_subject (T : Txt K mg) : Cal P w K mg base 4 "_law_subject" (spSubject K) := by
  have c_law_draw : Cal P w K mg base 1 "_law_draw" (spDraw K) := cal_draw T
  have c_law_chain : Cal P w K mg base 3 "_law_chain" (spChain K) := cal_chain T
  refine cal_of T.f_law_subject T.g_law_subject sc_law_subject (fun vs H Q E h => ?_) (fun _ _ _ _ _ _ us hl => match us, hl with | [_, _, _, _], _ => rfl) (fun cdv A outer s H vs Q E hr h => ?_)
  · obtain ⟨p, c, a, b, ps, ws, n, t, rfl, _⟩ := h
    rfl
  · obtain ⟨p, c, a, b, ps, ws, n, t, rfl, n1, t1, hp, ha, hb, k⟩ := h
    have nd := sc_law_subject.nd
    refine ⟨_, 
      (pss_cons (ps_if (pt_cmpR op_eq (pe_c c_law_draw hr (by rfl) (pa_cons (pv 0) (pa_cons pe_int pa_nil))) pe_int (nomark _)) 
        (pss_one (ps_ret (pe_c c_law_chain hr (by rfl) (pa_cons (pv 0) (pa_cons (pv 1) (pa_cons (pv 2) (pa_cons (pv 3) pa_nil))))))) pss_nil)
      (pss_cons (ps_set (i := 4) nd rfl (Or.inl rfl) (pe_lst pa_nil))
      (pss_cons (ps_for PassesOwn.never rfl (pi_range1 (by rfl) T.n_range (pa_cons (pe_op op_add pe_int (pe_c c_law_draw hr (by rfl) (pa_cons (pv 0) (pa_cons pe_int pa_nil)))) pa_nil)) (pg_name (i := 5) nd rfl (Or.inl rfl)) 
        (pss_cons (ps_set (i := 6) nd rfl (Or.inl rfl) (pe_c c_law_chain hr (by rfl) (pa_cons (pv 0) (pa_cons (pv 1) (pa_cons (pv 2) (pa_cons (pv 3) pa_nil))))))
        (pss_one (ps_if (pt_cmpR (op_notInT (α := (Tup Str)) hr.units) (pv 6) (pv 4) (by rfl)) 
          (pss_one (ps_expr (pe_bm PySem.F.plainAttrs_list PySem.F.slot_list_append PySem.F.type_list_append mt_append (pv 4) (pa_cons (pv 6) pa_nil)))) pss_nil))))
      (pss_one (ps_ret (pe_tup (pa_cons (pe_op op_add pe_int (pe_c c_law_draw hr (by rfl) (pa_cons (pv 0) (pa_cons (bB call_len T.n_len (pa_cons (pv 4) pa_nil)) pa_nil)))) (pa_cons (bT call_tuple_of T.n_tuple (pa_cons (pv 4) pa_nil)) pa_nil)))))))), ?_⟩
    walk_at "go"
    refine ⟨p, c, 2, t, rfl, by decide, by decide, by omega, hp, fun m H1 b1 p1 m0 m1 => ?_⟩
    have d1 : Drew K H p c (t + 1) H1 := ⟨b1, p1⟩
    refine ⟨rfl, ?_⟩
    walk_at "go"
    refine iteD (fun _ => ?_) (fun _ => ?_)
    · walk_at "go"
      refine ⟨p, c, a, b, ps, ws, n, t + 1, rfl, by omega, by omega, d1.2, ha.drew d1 hp, hb.drew d1 hp, fun q x H2 d2 hq ok => ?_⟩
      exact k q (.one x) H2 ((d1.trans d2).mono (by omega)) (hd_strsT hq) (chain_mono ok (by omega))
    · refine ⟨Nat.zero_le _, fun q nq => kNew nq fun H2 s2 hq => ?_⟩
      have d2 := d1.then s2
      have nq0 := d1.new nq
      walk_at "go"
      refine ⟨p, c, 4, t + 1, rfl, by decide, by decide, by omega, d2.2, fun m2 H3 b3 p3 m20 m21 => ?_⟩
      have dd3 : Drew K H2 p c (t + 1 + 1) H3 := ⟨b3, p3⟩
      have d3 := d2.trans dd3
      have hq3 := dd3.o d2.2 hq (by intro kvs z; cases z)
      walk_at "go"
      refine ⟨by omega, by omega, for_range (lo := 0) (n := (1 + m2).toNat) (fun i σ H' => ∃ (cs : List (List Str)) (us : List V) (o1 o2 : Option V), σ = [some (.ref p), some (.ref a), some (.ref b), some (.int n), some (.ref q), o1, o2] ∧
        H' q = some (.lst us) ∧ HdAll K H' us (cs.map Tup.mk) ∧ cs.length ≤ i ∧ (0 < i → cs ≠ []) ∧ cs.Nodup ∧ (∀ x ∈ cs, ChainOk 4 x) ∧ Drew K H p c (t + 2 + 10 * i) H') ⟨[], [], none, none, rfl, hq3, hdAll_nil, by simp, by simp, by simp, by simp, d3.mono (by omega)⟩ ?_ ?_⟩
      · rintro i σ H4 hi ⟨cs, us, o1, o2, rfl, hq4, hus, hl, hne, hnd, hok, d4⟩
        walk_at "go"
        refine ⟨p, c, a, b, ps, ws, n, _, rfl, by omega, by omega, d4.2, ha.drew d4 hp, hb.drew d4 hp, fun r x H5 d5 hr5 ok => ?_⟩
        have d6 := (d4.trans d5).mono (u := t + 2 + 10 * (i + 1 : Nat)) (by omega)
        have hq5 := d5.o d4.2 hq4 (by intro kvs z; cases z)
        have hus5 := d5.ds d4.2 hus
        walk_at "go"
        refine ⟨q, us, Tup.mk x, cs.map Tup.mk, rfl, .inl (sq_of hq5), hus5, hd_strsT hr5, ?_⟩
        walk_at "go"
        refine iteD (fun hin => ?_) (fun hin => ?_)
        · walk_at "go"
          have hx : x ∉ cs := fun z => hin (List.mem_map.mpr ⟨x, z, rfl⟩)
          have lu := hdAll_len hus5
          rw [List.length_map] at lu
          refine ⟨.inl ⟨rfl, _, sq_of hq5⟩, ?_⟩
          walk_at "go"
          refine ⟨q, us, _, rfl, rfl, hq5, sz_lt (by omega), kPut fun H6 w6 h6 => ⟨cs ++ [x], us ++ [.ref r], _, _, rfl, h6, ?_, by rw [List.length_append]; simp; omega, fun _ => by simp, ?_, ?_, d6.put hp nq0 w6⟩⟩
          · rw [List.map_append]
            exact hdAll_app (hus5.butF w6 hq5) (hdAll_cons ((hd_strsT hr5).butF w6 hq5) hdAll_nil)
          · refine List.nodup_append.mpr ⟨hnd, by simp, fun y hy z hz e => ?_⟩
            rw [List.mem_singleton.mp hz] at e
            exact hx (e ▸ hy)
          · intro y hy
            rcases List.mem_append.mp hy with hy | hy
            · exact hok y hy
            · rw [List.mem_singleton.mp hy]
              exact chain_mono ok (by omega)
        · refine ⟨cs, us, _, _, rfl, hq5, hus5, by omega, fun _ z => ?_, hnd, hok, d6⟩
          rw [z] at hin
          simp at hin
      · rintro σ H4 ⟨cs, us, o1, o2, rfl, hq4, hus, hl, hne, hnd, hok, d4⟩
        have lu := hdAll_len hus
        rw [List.length_map] at lu
        have hc0 : 0 < cs.length := List.length_pos_iff.mpr (hne (by omega))
        walk_at "go"
        refine ⟨_, us.length, rfl, .inl ⟨_, sq_of hq4, rfl⟩, ?_⟩
        refine ⟨p, c, _, _, rfl, by omega, by omega, by omega, d4.2, fun m3 H5 b5 p5 m30 m31 => ?_⟩
        have dd : Drew K H4 p c _ H5 := ⟨b5, p5⟩
        have hq5 := dd.o d4.2 hq4 (by intro kvs z; cases z)
        have hus5 := dd.ds d4.2 hus
        walk_at "go"
        refine ⟨q, us, rfl, .inl ⟨sq_of hq5, fun r nr => kNew nr fun H6 s6 h6 => ?_⟩⟩
        refine ⟨by show 2 ≤ sizeLine; decide, fun u nu => kNew nu fun H7 s7 h7 => ?_⟩
        refine k u (.some (1 + m3) cs) H7 ((((d4.trans dd).then s6).then s7).mono (by omega)) ?_ ⟨by omega, by omega, by omega, hnd, hok⟩
        have hcs : DpAll K H7 us (cs.map dChain) := by
          have z : HdAll K H7 us (cs.map Tup.mk) := (hus5.same s6).same s7
          unfold HdAll at z
          rw [List.map_map] at z
          exact z
        exact .tup (st_of h7) (.cons (.int _) (.cons (.tup (st_of (s7 _ _ h6)) hcs) .nil))
-- 0 _law_pen_here; 1 _law_people; 2 _law_words_here; 3 _law_top; 4 _law_goal; 5 _law_often
theorem cal_leave (T : Txt K mg) : Cal P w K mg base 6 "_law_leave" (spLeave K) := by
  have c_law_pick : Cal P w K mg base 2 "_law_pick" (spPick K) := cal_pick T
  have c_law_subject : Cal P w K mg base 4 "_law_subject" (spSubject K) := cal_subject T
  have c_law_days : Cal P w K mg base 5 "_law_days" (spSpan K 65 60000) := cal_days T
  have c_law_span : Cal P w K mg base 4 "_law_span" (spSpan K 64 70000) := cal_span T
  refine cal_of T.f_law_leave T.g_law_leave sc_law_leave (fun vs H Q E h => ?_) (fun _ _ _ _ _ _ us hl => match us, hl with | [_, _, _, _], _ => rfl) (fun cdv A outer s H vs Q E hr h => ?_)
  · obtain ⟨p, c, a, b, ps, ws, n, t, rfl, _⟩ := h
    rfl
  · obtain ⟨p, c, a, b, ps, ws, n, t, rfl, n1, t1, hp, ha, hb, k⟩ := h
    have nd := sc_law_leave.nd
    refine ⟨_, 
      (pss_cons (ps_par (i := 4) (j := 5) rfl nd rfl rfl (by decide) rfl rfl (pa_cons (pe_c c_law_subject hr (by rfl) (pa_cons (pv 0) (pa_cons (pv 1) (pa_cons (pv 2) (pa_cons (pv 3) pa_nil))))) (pa_cons (pe_c c_law_pick hr (by rfl) (pa_cons (pv 0) (pa_cons (pe_lst (pa_cons pe_non (pa_cons pe_int (pa_cons pe_int (pa_cons pe_int (pa_cons pe_int (pa_cons pe_non pa_nil))))))) pa_nil))) pa_nil)) (by rfl))
      (pss_one (ps_ret (pe_tup (pa_cons pe_str (pa_cons (pe_c c_law_pick hr (by rfl) (pa_cons (pv 0) (pa_cons (pv 1) pa_nil))) (pa_cons (pv 4) (pa_cons (pe_c c_law_span hr (by rfl) (pa_cons (pv 0) pa_nil)) (pa_cons (pe_c c_law_days hr (by rfl) (pa_cons (pv 0) pa_nil)) (pa_cons (pv 5) pa_nil)))))))))), ?_⟩
    walk_at "go"
    refine ⟨p, c, a, b, ps, ws, n, t, rfl, n1, by omega, hp, ha, hb, fun g x H1 d1 hg okg => ?_⟩
    walk_at "go"
    refine ⟨by show 6 ≤ sizeLine; decide, fun q nq => kNew nq fun H2 s2 hq => ?_⟩
    have d2 := d1.then s2
    refine ⟨p, c, _, _, rfl, by omega, d2.2, .inl ⟨q, _, rfl, sq_of hq, by simp, by simp, fun v hv H3 d3 => ?_⟩⟩
    obtain ⟨o, ho, oko⟩ : ∃ o : Option Int, (∀ H', Dp K H' v (dOpt o)) ∧ (o = none ∨ ∃ i, o = some i ∧ 0 ≤ i ∧ i ≤ 9) := by
      simp only [List.mem_cons, List.not_mem_nil, or_false] at hv
      rcases hv with rfl | rfl | rfl | rfl | rfl | rfl
      · exact ⟨none, fun _ => .non, .inl rfl⟩
      · exact ⟨some 0, fun _ => .int 0, .inr ⟨_, rfl, by decide, by decide⟩⟩
      · exact ⟨some 1, fun _ => .int 1, .inr ⟨_, rfl, by decide, by decide⟩⟩
      · exact ⟨some 2, fun _ => .int 2, .inr ⟨_, rfl, by decide, by decide⟩⟩
      · exact ⟨some 9, fun _ => .int 9, .inr ⟨_, rfl, by decide, by decide⟩⟩
      · exact ⟨none, fun _ => .non, .inl rfl⟩
    have d4 := d2.trans d3
    have hg3 := d3.d d2.2 (hg.same s2)
    walk_at "go"
    refine ⟨p, c, _, _, rfl, by omega, d4.2, .inl ⟨a, _, rfl, (ha.drew d4 hp).sq, by simp [ha.ne], by rw [List.length_map]; have := ha.le; omega, fun v2 hv2 H4 d5 => ?_⟩⟩
    obtain ⟨who, rfl, hwho⟩ := ha.pick hv2
    have d6 := d4.trans d5
    have hg4 := d5.d d4.2 hg3
    walk_at "go"
    refine ⟨p, c, _, rfl, by omega, d6.2, fun r b0 e0 H5 d7 okd hr5 => ?_⟩
    have d8 := d6.trans d7
    have hg5 := d7.d d6.2 hg4
    walk_at "go"
    refine ⟨p, c, _, rfl, by omega, d8.2, fun r2 b2 e2 H6 d9 okd2 hr6 => ?_⟩
    have d10 := d8.trans d9
    have hg6 := d9.d d8.2 hg5
    have hr56 := d9.t d8.2 hr5
    walk_at "go"
    refine ⟨by show 6 ≤ sizeLine; decide, fun u nu => kNew nu fun H7 s7 hu7 => ?_⟩
    refine k u (.lev who x b0 e0 b2 e2 o) H7 ((d10.then s7).mono (by omega)) ?_ ⟨hwho, okg, okd, okd2, oko⟩
    exact .tup (st_of hu7) (.cons (.str _) (.cons (.str _) (.cons (hg6.same s7) (.cons (.tup (sq_t s7 hr56) (.cons (.int _) (.cons (.int _) .nil))) (.cons (.tup (sq_t s7 hr6) (.cons (.int _) (.cons (.int _) .nil))) (.cons (ho _) .nil))))))
-- 0 _law_pen_here; 1 _law_people; 2 _law_words_here; 3 _law_many; 4 _law_top; 5 _law_found; 6 _law_k; 7 _law_make; 8 _law_plain
theorem cal_plain_book (T : Txt K mg) : Cal P w K mg base 7 "_law_plain_book" (spPlain K) := by
  have c_law_draw : Cal P w K mg base 1 "_law_draw" (spDraw K) := cal_draw T
  have c_law_naming : Cal P w K mg base 6 "_law_naming" (spNaming K) := cal_naming T
  have c_law_leave : Cal P w K mg base 6 "_law_leave" (spLeave K) := cal_leave T
  refine cal_of T.f_law_plain_book T.g_law_plain_book sc_law_plain_book (fun vs H Q E h => ?_) (fun _ _ _ _ _ _ us hl => match us, hl with | [_, _, _, _, _], _ => rfl) (fun cdv A outer s H vs Q E hr h => ?_)
  · obtain ⟨p, c, a, b, ps, ws, m, n, t, rfl, _⟩ := h
    rfl
  · obtain ⟨p, c, a, b, ps, ws, m, n, t, rfl, m1, n1, t1, hp, ha, hb, k⟩ := h
    have nd := sc_law_plain_book.nd
    refine ⟨_, 
      (pss_cons (ps_set (i := 5) nd rfl (Or.inl rfl) (pe_lst pa_nil))
      (pss_cons (ps_for PassesOwn.never rfl (pi_range1 (by rfl) T.n_range (pa_cons (pe_c c_law_draw hr (by rfl) (pa_cons (pv 0) (pa_cons (pe_op op_add (pv 3) pe_int) pa_nil))) pa_nil)) (pg_name (i := 6) nd rfl (Or.inl rfl)) 
        (pss_cons (ps_set (i := 7) nd rfl (Or.inl rfl) (pe_cmpR op_gt (pe_c c_law_draw hr (by rfl) (pa_cons (pv 0) (pa_cons pe_int pa_nil))) pe_int (nomark _)))
        (pss_cons (ps_set (i := 8) nd rfl (Or.inl rfl) (pe_ifExp (pt_val (pv 7)) (pe_c c_law_naming hr (by rfl) (pa_cons (pv 0) (pa_cons (pv 1) (pa_cons (pv 2) (pa_cons (pv 4) pa_nil))))) (pe_c c_law_leave hr (by rfl) (pa_cons (pv 0) (pa_cons (pv 1) (pa_cons (pv 2) (pa_cons (pv 4) pa_nil)))))))
        (pss_one (ps_if (pt_cmpR (op_notInT (α := Plain) hr.units) (pv 8) (pv 5) (by rfl)) 
          (pss_one (ps_expr (pe_bm PySem.F.plainAttrs_list PySem.F.slot_list_append PySem.F.type_list_append mt_append (pv 5) (pa_cons (pv 8) pa_nil)))) pss_nil)))))
      (pss_one (ps_ret (pv 5))))), ?_⟩
    walk_at "go"
    refine ⟨Nat.zero_le _, fun q nq => kNew nq fun H1 s1 hq => ?_⟩
    have d1 : Drew K H p c t H1 := ⟨Same.to s1, hp.same s1⟩
    walk_at "go"
    refine ⟨p, c, _, _, rfl, by omega, by omega, by omega, d1.2, fun m2 H2 b2 p2 m20 m21 => ?_⟩
    have dd : Drew K H1 p c (t + 1) H2 := ⟨b2, p2⟩
    have d2 := d1.trans dd
    have hq2 := dd.o d1.2 hq (by intro kvs z; cases z)
    walk_at "go"
    refine ⟨by omega, by omega, for_range (lo := 0) (n := m2.toNat) (fun i σ H' => ∃ (us : List V) (xs : List Plain) (o1 o2 o3 : Option V), σ = [some (.ref p), some (.ref a), some (.ref b), some (.int m), some (.int n), some (.ref q), o1, o2, o3] ∧
      Book0 K H' q us xs ∧ xs.length ≤ i ∧ Drew K H p c (t + 1 + 191 * i) H') ⟨[], [], none, none, none, rfl, ⟨hq2, hdAll_nil, by simp, by simp⟩, by simp, d2.mono (by omega)⟩ ?_ ?_⟩
    · rintro i σ H3 hi ⟨us, xs, o1, o2, o3, rfl, B, hl, d3⟩
      walk_at "go"
      refine ⟨p, c, 3, _, rfl, by decide, by decide, by omega, d3.2, fun m3 H4 b4 p4 m30 m31 => ?_⟩
      have d4' : Drew K H3 p c (t + 1 + 191 * i + 1) H4 := ⟨b4, p4⟩
      have d4 := d3.trans d4'
      have B4 : Book0 K H4 q us xs := ⟨d4'.o d3.2 B.at_ (by intro kvs z; cases z), d4'.ds d3.2 B.hd, B.nd, B.ok⟩
      walk_at "go"
      -- what follows, with the new statement
      have fin : ∀ (r : Addr) (x : Plain) (H5 : Hp), Drew K H4 p c (t + 1 + 191 * (i + 1 : Nat)) H5 → Hd K H5 (.ref r) x → PlainOk x → Book0 K H5 q us xs ∧ Drew K H p c (t + 1 + 191 * (i + 1 : Nat)) H5 := fun r x H5 d5 hx ok =>
        ⟨⟨d5.o d4.2 B4.at_ (by intro kvs z; cases z), d5.ds d4.2 B4.hd, B4.nd, B4.ok⟩, d4.trans d5⟩
      have lu := hdAll_len B4.hd
      refine iteB (fun _ => ?_) (fun _ => ?_)
      · walk_at "go"
        refine ⟨p, c, a, b, ps, ws, n, _, rfl, n1, by omega, d4.2, ha.drew d4 hp, hb.drew d4 hp, fun r x H5 d5 hx ok => ?_⟩
        obtain ⟨B5, d6⟩ := fin r x H5 (d5.mono (by omega)) hx ok
        walk_at "go"
        refine ⟨q, us, x, xs, rfl, .inl (sq_of B5.at_), B5.hd, hx, ?_⟩
        walk_at "go"
        refine iteD (fun hin => ?_) (fun hin => ⟨us, xs, _, _, _, rfl, B5, by omega, d6⟩)
        walk_at "go"
        refine ⟨.inl ⟨rfl, _, sq_of B5.at_⟩, ?_⟩
        walk_at "go"
        exact ⟨q, us, _, rfl, rfl, B5.at_, sz_lt (by omega), kPut fun H6 w6 h6 => ⟨_, _, _, _, _, rfl, book0_put B5 hx ok hin w6 h6, by rw [List.length_append]; simp; omega, d6.put hp nq w6⟩⟩
      · walk_at "go"
        refine ⟨p, c, a, b, ps, ws, n, _, rfl, n1, by omega, d4.2, ha.drew d4 hp, hb.drew d4 hp, fun r x H5 d5 hx ok => ?_⟩
        obtain ⟨B5, d6⟩ := fin r x H5 (d5.mono (by omega)) hx ok
        walk_at "go"
        refine ⟨q, us, x, xs, rfl, .inl (sq_of B5.at_), B5.hd, hx, ?_⟩
        walk_at "go"
        refine iteD (fun hin => ?_) (fun hin => ⟨us, xs, _, _, _, rfl, B5, by omega, d6⟩)
        walk_at "go"
        refine ⟨.inl ⟨rfl, _, sq_of B5.at_⟩, ?_⟩
        walk_at "go"
        exact ⟨q, us, _, rfl, rfl, B5.at_, sz_lt (by omega), kPut fun H6 w6 h6 => ⟨_, _, _, _, _, rfl, book0_put B5 hx ok hin w6 h6, by rw [List.length_append]; simp; omega, d6.put hp nq w6⟩⟩
    · rintro σ H3 ⟨us, xs, o1, o2, o3, rfl, B, hl, d3⟩
      walk_at "go"
      exact k q us xs H3 (d3.mono (by omega)) nq B (by omega)
-- 0 _law_pen_here; 1 _law_many; 2 _law_top; 3 _law_people; 4 _law_words_here
theorem cal_town (T : Txt K mg) : Cal P w K mg base 8 "_law_town" (spTown K) := by
  have c_law_draw : Cal P w K mg base 1 "_law_draw" (spDraw K) := cal_draw T
  have c_law_words : Cal P w K mg base 3 "_law_words" (spWords K) := cal_words T
  have c_law_plain_book : Cal P w K mg base 7 "_law_plain_book" (spPlain K) := cal_plain_book T
  refine cal_of T.f_law_town T.g_law_town sc_law_town (fun vs H Q E h => ?_) (fun _ _ _ _ _ _ us hl => match us, hl with | [_, _, _], _ => rfl) (fun cdv A outer s H vs Q E hr h => ?_)
  · obtain ⟨p, c, n, t, rfl, _⟩ := h
    rfl
  · obtain ⟨p, c, n, t, rfl, n1, t1, hp, k⟩ := h
    have nd := sc_law_town.nd
    refine ⟨_, 
      (pss_cons (ps_par (i := 3) (j := 4) rfl nd rfl rfl (by decide) rfl rfl (pa_cons (pe_c c_law_words hr (by rfl) (pa_cons (pv 0) (pa_cons (pe_op op_add pe_int (pe_c c_law_draw hr (by rfl) (pa_cons (pv 0) (pa_cons pe_int pa_nil)))) pa_nil))) (pa_cons (pe_c c_law_words hr (by rfl) (pa_cons (pv 0) (pa_cons (pe_op op_add pe_int (pe_c c_law_draw hr (by rfl) (pa_cons (pv 0) (pa_cons pe_int pa_nil)))) pa_nil))) pa_nil)) (by rfl))
      (pss_one (ps_ret (pe_tup (pa_cons (pv 3) (pa_cons (pv 4) (pa_cons (pe_c c_law_plain_book hr (by rfl) (pa_cons (pv 0) (pa_cons (pv 3) (pa_cons (pv 4) (pa_cons (pv 1) (pa_cons (pv 2) pa_nil)))))) pa_nil))))))), ?_⟩
    walk_at "go"
    refine ⟨p, c, 3, t, rfl, by decide, by decide, by omega, hp, fun m1 H1 b1 p1 m10 m11 => ?_⟩
    have d1 : Drew K H p c (t + 1) H1 := ⟨b1, p1⟩
    walk_at "go"
    refine ⟨p, c, _, t + 1, rfl, by omega, by omega, by omega, d1.2, fun a ps H2 d2 na ha Wa la => ?_⟩
    have d3 := d1.trans d2
    walk_at "go"
    refine ⟨p, c, 3, t + 1 + 10, rfl, by decide, by decide, by omega, d3.2, fun m2 H3 b3 p3 m20 m21 => ?_⟩
    have dd : Drew K H2 p c (t + 1 + 10 + 1) H3 := ⟨b3, p3⟩
    have d4 := d3.trans dd
    have ha3 := dd.o d3.2 ha (by intro kvs z; cases z)
    have Wa3 := Wa.drew dd d3.2
    walk_at "go"
    refine ⟨p, c, _, _, rfl, by omega, by omega, by omega, d4.2, fun b ws H4 d5 nb hb Wb lb => ?_⟩
    have d6 := d4.trans d5
    have ha4 := d5.o d4.2 ha3 (by intro kvs z; cases z)
    have Wa4 := Wa3.drew d5 d4.2
    walk_at "go"
    refine ⟨p, c, a, b, ps, ws, 4, n, _, rfl, by decide, n1, by omega, d6.2, Wa4, Wb, fun q us xs H5 d7 nq B hl => ?_⟩
    have d8 := d6.trans d7
    have ha5 := d7.o d6.2 ha4 (by intro kvs z; cases z)
    have hb5 := d7.o d6.2 hb (by intro kvs z; cases z)
    refine ⟨by show 3 ≤ sizeLine; decide, fun u nu => kNew nu fun H6 s6 h6 => ?_⟩
    exact k u a b q ps ws us xs H6 ((d8.then s6).mono (by omega)) (st_of h6) (s6 _ _ ha5) ((Wa4.drew d7 d6.2).same s6) (s6 _ _ hb5) ((Wb.drew d7 d6.2).same s6) la lb ⟨s6 _ _ B.at_, B.hd.same s6, B.nd, B.ok⟩ hl
-- 0 _law_pen_here; 1 _law_people; 2 _law_words_here; 3 _law_some
theorem cal_asked (T : Txt K mg) : Cal P w K mg base 4 "_law_asked" (spAsked K) := by
  have c_law_pick : Cal P w K mg base 2 "_law_pick" (spPick K) := cal_pick T
  have c_law_chain : Cal P w K mg base 3 "_law_chain" (spChain K) := cal_chain T
  refine cal_of T.f_law_asked T.g_law_asked sc_law_asked (fun vs H Q E h => ?_) (fun _ _ _ _ _ _ us hl => match us, hl with | [_, _, _], _ => rfl) (fun cdv A outer s H vs Q E hr h => ?_)
  · obtain ⟨p, c, a, b, ps, ws, t, rfl, _⟩ := h
    rfl
  · obtain ⟨p, c, a, b, ps, ws, t, rfl, t1, hp, ha, Wa, hb, Wb, l1, l2, k⟩ := h
    have nd := sc_law_asked.nd
    refine ⟨_, 
      (pss_cons (ps_set (i := 3) nd rfl (Or.inl rfl) (pe_c c_law_pick hr (by rfl) (pa_cons (pv 0) (pa_cons (pe_lst (pa_cons (pv 1) (pa_cons (pv 1) (pa_cons (pe_op op_cat (pv 1) (pe_lst (pa_cons pe_str pa_nil))) pa_nil)))) pa_nil))))
      (pss_one (ps_ret (pe_c c_law_chain hr (by rfl) (pa_cons (pv 0) (pa_cons (pv 3) (pa_cons (pe_c c_law_pick hr (by rfl) (pa_cons (pv 0) (pa_cons (pe_lst (pa_cons (pv 2) (pa_cons (pv 2) (pa_cons (pe_op op_cat (pv 2) (pe_lst (pa_cons pe_str pa_nil))) pa_nil)))) pa_nil))) (pa_cons (pe_c c_law_pick hr (by rfl) (pa_cons (pv 0) (pa_cons (pe_lst (pa_cons pe_int (pa_cons pe_int (pa_cons pe_int (pa_cons pe_int (pa_cons pe_int pa_nil)))))) pa_nil))) pa_nil)))))))), ?_⟩
    have one : 1 ≤ sizeLine := by decide
    walk_at "go"
    refine ⟨one, fun q1 n1 => kNew n1 fun H1 s1 h1 => ?_⟩
    refine ⟨a, q1, _, _, rfl, rfl, s1 _ _ ha, h1, sz_of (by rw [List.length_map]; show _ + 1 ≤ _; omega), fun q2 n2 => kNew n2 fun H2 s2 h2 => ?_⟩
    refine ⟨by show 3 ≤ sizeLine; decide, fun q3 n3 => kNew n3 fun H3 s3 h3 => ?_⟩
    have hp3 := ((hp.same s1).same s2).same s3
    have s13 := (s1.trans s2).trans s3
    have W2 : Words K H3 q2 (ps ++ [Str.ofString "stranger"]) := Wa.snoc word_stranger (by omega) (s3 _ _ h2)
    -- whom the chain may begin with
    refine ⟨p, c, _, t, rfl, by omega, hp3, .inl ⟨q3, _, rfl, sq_of h3, by simp, by simp, fun v hv H4 d4 => ?_⟩⟩
    have d04 : Drew K H p c (t + 1) H4 := d4.same s13
    obtain ⟨a2, ps2, rfl, Wa2⟩ : ∃ a2 ps2, v = .ref a2 ∧ Words K H4 a2 ps2 := by
      simp only [List.mem_cons, List.not_mem_nil, or_false] at hv
      rcases hv with rfl | rfl | rfl
      · exact ⟨a, ps, rfl, (Wa.same s13).drew d4 hp3⟩
      · exact ⟨a, ps, rfl, (Wa.same s13).drew d4 hp3⟩
      · exact ⟨q2, _, rfl, W2.drew d4 hp3⟩
    have hb4 := d4.o hp3 (s13 _ _ hb) (by intro kvs z; cases z)
    have Wb4 := (Wb.same s13).drew d4 hp3
    clear h1 h2 h3
    walk_at "go"
    refine ⟨one, fun q1 n1 => kNew n1 fun H5 s5 h5 => ?_⟩
    refine ⟨b, q1, _, _, rfl, rfl, s5 _ _ hb4, h5, sz_of (by rw [List.length_map]; show _ + 1 ≤ _; omega), fun q2 n2 => kNew n2 fun H6 s6 h6 => ?_⟩
    refine ⟨by show 3 ≤ sizeLine; decide, fun q3 n3 => kNew n3 fun H7 s7 h7 => ?_⟩
    have s47 := (s5.trans s6).trans s7
    have d07 := d04.then s47
    have W6 : Words K H7 q2 (ws ++ [Str.ofString "nothing"]) := Wb4.snoc word_nothing (by omega) (s7 _ _ h6)
    refine ⟨p, c, _, t + 1, rfl, by omega, d07.2, .inl ⟨q3, _, rfl, sq_of h7, by simp, by simp, fun v hv H8 d8 => ?_⟩⟩
    have d08 := d07.trans d8
    obtain ⟨b2, ws2, rfl, Wb2⟩ : ∃ b2 ws2, v = .ref b2 ∧ Words K H8 b2 ws2 := by
      simp only [List.mem_cons, List.not_mem_nil, or_false] at hv
      rcases hv with rfl | rfl | rfl
      · exact ⟨b, ws, rfl, (Wb4.same s47).drew d8 d07.2⟩
      · exact ⟨b, ws, rfl, (Wb4.same s47).drew d8 d07.2⟩
      · exact ⟨q2, _, rfl, W6.drew d8 d07.2⟩
    have Wa8 := (Wa2.same s47).drew d8 d07.2
    clear h5 h6 h7
    walk_at "go"
    refine ⟨by show 5 ≤ sizeLine; decide, fun q4 n4 => kNew n4 fun H9 s9 h9 => ?_⟩
    have d09 := d08.then s9
    refine ⟨p, c, _, t + 2, rfl, by omega, ⟨by have := d09.2; exact this.mono (by omega), .inl ⟨q4, _, rfl, sq_of h9, by simp, by simp, fun v hv H10 d10 => ?_⟩⟩⟩
    have d010 := d09.trans (d10.mono (u := t + 3) (by omega))
    obtain ⟨m, rfl, m1⟩ : ∃ m : Nat, v = .int m ∧ m ≤ 8 := by
      simp only [List.mem_cons, List.not_mem_nil, or_false] at hv
      rcases hv with rfl | rfl | rfl | rfl | rfl
      · exact ⟨1, rfl, by decide⟩
      · exact ⟨2, rfl, by decide⟩
      · exact ⟨3, rfl, by decide⟩
      · exact ⟨3, rfl, by decide⟩
      · exact ⟨8, rfl, by decide⟩
    have Wa10 := (Wa8.same s9).drew d10 d09.2
    have Wb10 := (Wb2.same s9).drew d10 d09.2
    refine ⟨p, c, a2, b2, ps2, ws2, m, t + 3, rfl, m1, by omega, d010.2, Wa10, Wb10, fun r x H11 d11 hx ok => ?_⟩
    exact k r x H11 ((d010.trans d11).mono (by omega)) hx (chain_mono ok m1)
end
end NC
-- NcEnd
set_option Elab.async false
set_option linter.all false
set_option maxRecDepth 100000
set_option maxHeartbeats 4000000
namespace NC
local macro_rules | `(tactic| walk_at "go") => `(tactic| (repeat (first
  | (refine ⟨_, rfl, ?_⟩)
  | (refine ⟨_, _, rfl, rfl, ?_⟩)
  | (refine ⟨_, _, rfl, ?_⟩)
  | (refine ⟨_, _, _, rfl, ?_⟩)
  | (refine Or.inl ⟨_, rfl, ?_⟩)
  | (refine iteT ?_)
  | (refine iteF ?_))))
open PySem PySem.Spec PyProof.Rows L2 PySem.W NdefX
/-! ### a call all of keywords -/
def tCallK (n : Nat) (sp : Sp) (tk : TA) : TE := fun σ H Q => tk σ H fun zs H1 => zs.length = n ∧ sp zs.reverse H1 Q E0
structure KbOk (P : Program) (w : World) (K : PySem.W.Frag) (mg : Str → Option Value) (base : Heap) (k : Nat) (f : Addr) (ks : List Str) (sp : Sp) : Prop where
  ex : ∃ fd ps, FnOk P w K mg base CX0 k f fd ps sp ∧ KBn K fd ps 0 ks (fun _ ws => ws.reverse) (fun _ zs => zs.reverse)
  kp : PySem.W.keepIn K (.ref f) = true
theorem pe_callK {X : Cx} {x : Str} {p pos : Pos} {kws : List Keyword} {k j : Nat} {f : Addr} {ks : List Str} {sp : Sp} {tk : TA} (F : KbOk X.prog X.w X.K X.mg X.base k f ks sp) (hr : Room j X.A) (hg : Gl X x) (hm : X.mg x = some (.ref f)) (hkw : PK X kws tk) (hk : k ≤ j := by decide)
    (hall : (backToKw pos (keywordEach kws X.env)).all (·.1.isSome) = true := by rfl) (hks : (backToKw pos (keywordEach kws X.env)).filterMap (·.1) = ks := by rfl) (hdb : (x == ("__debug__" : Str)) = false := by decide)
    (hpl : ((backTo pos (starEach [] X.env)).any (·.1) || (backToKw pos (keywordEach kws X.env)).any (·.1.isNone)) = false := by rfl) : PE X (.Call (.Name x p) [] kws pos) (tCallK ks.length sp tk) := by
  obtain ⟨fd, ps, G, hb⟩ := F.ex
  refine ⟨fun pins s σ H Q I h => ?_⟩
  refine wpAny_Call_Name_kw (ld_glob I hg hm ?_ hdb)
  refine PySem.W.callWith_KW0 (h₀ := X.base) I.ok.mod.kin F.kp hall ?_ hpl
  refine thn (hkw.run pos pins s σ H _ I h) fun ws s2 ⟨zs, H2, I2, rz, l2, q2⟩ => ⟨I2.kIn, ?_⟩
  rw [hks]
  exact run_fnN (us := []) (vs := []) G (hr.mono hk) hb pass0 I2 .nil rz rfl l2 q2
theorem kb_paper_for {P : Program} {w : World} {K : PySem.W.Frag} {mg : Str → Option Value} {base : Heap} (T : Txt K mg) : KbOk P w K mg base 5 (He.ga K "paper_for") ["stretch", "person", "chain", "book"] (spPaperFor K) := by
  obtain ⟨fd, F, D⟩ := fn_paper_for (P := P) (w := w) (base := base) T
  refine ⟨⟨fd, _, F, ⟨fun s us ws hK l1 l2 => ?_, fun r1 r2 => Vals.reverse r2⟩⟩, D.kp⟩
  obtain ⟨oc, od, dV, kV, doc, pm, an, cdv, ct, osl, rfl, lk, hcd, hD, _⟩ := D.ex
  obtain rfl : dV = .none := by
    rcases hD with ⟨_, e⟩ | ⟨e, _⟩
    · exact e
    · exact absurd rfl e
  match us, l1, ws, l2 with
  | [], _, [a, b, c, d], _ => exact .of_eq rfl
/-! ### what stays while the pen draws -/
theorem Stm.drew {K : PySem.W.Frag} {H H' : Hp} {p c : Addr} {t u : Int} {v : V} {x : Plain} (d : Drew K H p c u H') (h : Pen K H p c t) (s : Stm K H v x) : Stm K H' v x := by
  obtain ⟨kvs, hp⟩ := h.at_
  cases x with
  | nam who word ch b e =>
    obtain ⟨a, dx, pc, pd, rfl, ha, h1, h2⟩ := s
    exact ⟨a, dx, pc, pd, rfl, d.o h ha (fun kvs z => by cases z), d.t h h1, d.t h h2⟩
  | lev who g t1 t2 b e o =>
    obtain ⟨a, dx, pg, pt, pd, vo, rfl, ha, h1, h2, h3, h4⟩ := s
    exact ⟨a, dx, pg, pt, pd, vo, rfl, d.o h ha (fun kvs z => by cases z), dp_butF d.1 hp rfl _ _ (noList_subj g) h1, d.t h h2, d.t h h3, dp_butF d.1 hp rfl _ _ (noList_opt o) h4⟩
theorem BookAt.drew {K : PySem.W.Frag} {H H' : Hp} {p c a : Addr} {t u : Int} {us : List V} {xs : List Plain} (d : Drew K H p c u H') (h : Pen K H p c t) (s : BookAt K H a us xs) : BookAt K H' a us xs := by
  obtain ⟨dx, pt, pp, pn, h1, h2, h3, h4⟩ := s
  exact ⟨dx, pt, pp, pn, d.o h h1 (fun kvs z => by cases z), d.t h h2, h3, fun i v e => by obtain ⟨q, g1, g2⟩ := h4 i v e; exact ⟨q, g1, g2.drew d h⟩⟩
theorem begins_len {xs : List Plain} {ns : List Int} (B : Begins xs ns) : ns.length ≤ 1 + 2 * xs.length := by
  have nd : ns.Nodup := B.1.imp fun h e => by rw [e] at h; exact absurd h (Int.lt_irrefl _)
  have z := nd_le nd (m := 0 :: marks xs) fun i hi => by
    rcases ((B.2 i).mp hi).1 with rfl | h
    · exact List.mem_cons_self
    · exact List.mem_cons_of_mem _ h
  have l := marks_len xs
  rw [List.length_cons] at z
  omega
/-- all that one round of the law asks, made -/
structure Round (K : PySem.W.Frag) (H : Hp) (q sg hs r : Addr) (us ws : List V) (xs : List Plain) (c : List Str) (ns : List Int) (Ts : List Addr) : Prop where
  at_ : H q = some (.lst us)
  hd : HdAll K H us xs
  bk : BookAt K H hs ws xs
  row : SqT K H r (c.map V.str)
  sg_ : H sg = some (.lst (Ts.map V.ref))
  seg : ∀ (j : Nat) T, Ts[j]? = some T → ∃ s, (segs ns)[j]? = some s ∧ H T = some (.tup [.int s.1, .int s.2])
theorem Round.same {K : PySem.W.Frag} {H H' : Hp} {q sg hs r : Addr} {us ws : List V} {xs : List Plain} {c : List Str} {ns : List Int} {Ts : List Addr} (s : Same H H') (R : Round K H q sg hs r us ws xs c ns Ts) : Round K H' q sg hs r us ws xs c ns Ts :=
  ⟨s _ _ R.at_, R.hd.same s, R.bk.same s, sq_t s R.row, s _ _ R.sg_, fun j T e => by obtain ⟨z, h1, h2⟩ := R.seg j T e; exact ⟨z, h1, s _ _ h2⟩⟩
theorem Round.drew {K : PySem.W.Frag} {H H' : Hp} {p cc : Addr} {t u : Int} {q sg hs r : Addr} {us ws : List V} {xs : List Plain} {c : List Str} {ns : List Int} {Ts : List Addr} (d : Drew K H p cc u H') (h : Pen K H p cc t) (R : Round K H q sg hs r us ws xs c ns Ts) : Round K H' q sg hs r us ws xs c ns Ts :=
  ⟨d.o h R.at_ (fun kvs z => by cases z), d.ds h R.hd, R.bk.drew d h, d.t h R.row, d.o h R.sg_ (fun kvs z => by cases z), fun j T e => by obtain ⟨z, h1, h2⟩ := R.seg j T e; exact ⟨z, h1, d.o h h2 (fun kvs z => by cases z)⟩⟩
def spLaw (K : PySem.W.Frag) : Sp := fun vs H Q _ => ∃ (a : Addr) (ns : List Int), vs = [.ref a] ∧ SqL K H a (ns.map V.int) ∧ ns.length ≤ 63 ∧ ∀ H', Q (.bl true) H'
abbrev NN_law : List Str := ["_law_script", "_law_pen_here", "_law_turn", "_law_people", "_law_words_here", "_law_plains", "_law_house", "_law_segments_here", "_law_row", "_law_some", "_law_who", "_law_i", "_law_j", "_law_span_here", "_law_told"]
theorem sc_law : FnScope NN_law ["_law_script"] (defScope s_law) := ⟨rfl, rfl, rfl, by decide +kernel, rfl, by decide +kernel, by decide +kernel⟩
section
variable {P : Program} {w : World} {K : PySem.W.Frag} {mg : Str → Option Value} {base : Heap}
-- 0 _law_script; 1 _law_pen_here; 2 _law_turn; 3 _law_people; 4 _law_words_here; 5 _law_plains; 6 _law_house; 7 _law_segments_here; 8 _law_row; 9 _law_some; 10 _law_who; 11 _law_i; 12 _law_j; 13 _law_span_here; 14 _law_told
theorem cal_law (T : Txt K mg) (hP : PrgOk P) : ∃ fd, FnOk P w K mg base CX0 9 (He.fAd K d_law.at_) fd ["_law_script"] (spLaw K) ∧ FunD K d_law.name d_law.qual d_law.params d_law.body d_law.scope [] [] (He.fAd K d_law.at_) fd := by
  have c_law_pen : Cal P w K mg base 1 "_law_pen" (spPen K) := cal_pen T
  have c_law_pick : Cal P w K mg base 2 "_law_pick" (spPick K) := cal_pick T
  have c_law_town : Cal P w K mg base 8 "_law_town" (spTown K) := cal_town T
  have c_law_book : Cal P w K mg base 8 "_law_book" (spBook K) := cal_book T hP
  have c_law_segments := cal_segments (P := P) (w := w) (base := base) T
  have c_law_asked : Cal P w K mg base 4 "_law_asked" (spAsked K) := cal_asked T
  have c_law_reach : Cal P w K mg base 1 "_law_reach" (spReach K) := cal_reach T
  have c_law_rounds : Cal P w K mg base 2 "_law_rounds" (spRounds K) := cal_rounds T
  have c_law_held : Cal P w K mg base 1 "_law_held" (spHeld K) := cal_held T
  have c_law_told_right : Cal P w K mg base 5 "_law_told_right" (spTold K) := cal_told_right T
  have c_law_inner := cal_inner (P := P) (w := w) (base := base) T
  have c_paper_for : Cal P w K mg base 5 "paper_for" (spPaperFor K) := cal_paper_for T
  refine fn2_of T.f_law sc_law (fun vs H Q E h => ?_) (fun cdv A outer s H vs Q E hr h => ?_)
  · obtain ⟨a, ns, rfl, _⟩ := h
    rfl
  · obtain ⟨a, ns, rfl, ha, ln, k⟩ := h
    have nd := sc_law.nd
    have hu := hu_of hr
    refine ⟨_, 
      (pss_cons (ps_set (i := 1) nd rfl (Or.inl rfl) (pe_c c_law_pen hr (by rfl) (pa_cons (pv 0) pa_nil)))
      (pss_cons (ps_for PassesOwn.never rfl (pi_range1 (by rfl) T.n_range (pa_cons (pe_op op_add pe_int (bB (call_min2 rfl) T.n_min (pa_cons pe_int (pa_cons (bB call_len T.n_len (pa_cons (pv 0) pa_nil)) pa_nil)))) pa_nil)) (pg_name (i := 2) nd rfl (Or.inl rfl)) 
        (pss_cons (ps_asg (pe_c c_law_town hr (by rfl) (pa_cons (pv 1) (pa_cons pe_int (pa_cons (pe_c c_law_pick hr (by rfl) (pa_cons (pv 1) (pa_cons (pe_lst (pa_cons pe_int (pa_cons pe_int (pa_cons pe_int pa_nil)))) pa_nil))) pa_nil)))) (pg_tup rfl (pgs_cons (pg_name (i := 3) nd rfl (Or.inl rfl)) (pgs_cons (pg_name (i := 4) nd rfl (Or.inl rfl)) (pgs_cons (pg_name (i := 5) nd rfl (Or.inl rfl)) pgs_nil)))))
        (pss_cons (ps_par (i := 6) (j := 7) rfl nd rfl rfl (by decide) rfl rfl (pa_cons (pe_c c_law_book hr (by rfl) (pa_cons (pv 5) pa_nil)) (pa_cons (pe_c c_law_segments hr (by rfl) (pa_cons (pv 5) pa_nil)) pa_nil)) (by rfl))
        (pss_cons (ps_set (i := 8) nd rfl (Or.inl rfl) (pe_c c_law_asked hr (by rfl) (pa_cons (pv 1) (pa_cons (pv 3) (pa_cons (pv 4) pa_nil)))))
        (pss_cons (ps_set (i := 9) nd rfl (Or.inl rfl) (pe_c c_law_reach hr (by rfl) (pa_cons (pe_c c_law_rounds hr (by rfl) (pa_cons (pv 5) (pa_cons (pe_c c_law_held hr (by rfl) (pa_cons (pv 5) (pa_cons (pe_tup (pa_cons pe_int (pa_cons (pe_powc (r := 1000000000000000000000000000000) (by decide) ⟨by decide, by decide, by decide⟩) pa_nil))) (pa_cons pe_bl pa_nil)))) (pa_cons pe_dnewT pa_nil)))) (pa_cons (pv 8) pa_nil))))
        (pss_cons (ps_set (i := 10) nd rfl (Or.inl rfl) (pe_c c_law_pick hr (by rfl) (pa_cons (pv 1) (pa_cons (pe_op op_cat (pv 9) (pe_lst (pa_cons (pe_c c_law_pick hr (by rfl) (pa_cons (pv 1) (pa_cons (pe_op op_cat (pv 3) (pe_lst (pa_cons pe_str pa_nil))) pa_nil))) pa_nil))) pa_nil))))
        (pss_one (ps_for PassesOwn.never rfl (pi_range1 (by rfl) T.n_range (pa_cons (bB call_len T.n_len (pa_cons (pv 7) pa_nil)) pa_nil)) (pg_name (i := 11) nd rfl (Or.inl rfl)) 
          (pss_one (ps_for PassesOwn.never rfl (pi_range2 (by rfl) T.n_range (pa_cons (pv 11) (pa_cons (bB call_len T.n_len (pa_cons (pv 7) pa_nil)) pa_nil))) (pg_name (i := 12) nd rfl (Or.inl rfl)) 
            (pss_cons (ps_set (i := 13) nd rfl (Or.inl rfl) (pe_tup (pa_cons (pe_ix ix_tup (pe_ix ix_list (pv 7) (pv 11) (fun _ _ => rfl)) pe_int (fun _ _ => rfl)) (pa_cons (pe_ix ix_tup (pe_ix ix_list (pv 7) (pv 12) (fun _ _ => rfl)) pe_int (fun _ _ => rfl)) pa_nil))))
            (pss_cons (ps_if (pt_not (pt_val (pe_c c_law_told_right hr (by rfl) (pa_cons (pv 5) (pa_cons (pv 7) (pa_cons (pv 13) (pa_cons (pv 8) (pa_cons (pv 10) (pa_cons (pe_c c_paper_for hr (by rfl) (pa_cons (pv 6) (pa_cons (pv 8) (pa_cons (pv 10) (pa_cons (pv 13) pa_nil))))) pa_nil))))))))) 
              (pss_one (ps_ret pe_bl)) pss_nil)
            (pss_cons (ps_set (i := 13) nd rfl (Or.inl rfl) (pe_tup (pa_cons (pe_c c_law_inner hr (by rfl) (pa_cons (pv 1) (pa_cons (pe_ix ix_list (pv 7) (pv 11) (fun _ _ => rfl)) pa_nil))) (pa_cons (pe_ix ix_tup (pe_ix ix_list (pv 7) (pv 12) (fun _ _ => rfl)) pe_int (fun _ _ => rfl)) pa_nil))))
            (pss_cons (ps_set (i := 13) nd rfl (Or.inl rfl) (pe_tup (pa_cons (pe_ix ix_tup (pv 13) pe_int (fun _ _ => rfl)) (pa_cons (bB (call_max2 rfl) T.n_max (pa_cons (pe_ix ix_tup (pv 13) pe_int (fun _ _ => rfl)) (pa_cons (pe_c c_law_inner hr (by rfl) (pa_cons (pv 1) (pa_cons (pe_ix ix_list (pv 7) (pv 12) (fun _ _ => rfl)) pa_nil))) pa_nil))) pa_nil))))
            (pss_cons (ps_set (i := 14) nd rfl (Or.inl rfl) (pe_callK (kb_paper_for T) hr (by rfl) T.g_paper_for (pk_cons (pv 13) (pk_cons (pv 10) (pk_cons (pv 8) (pk_cons (pv 6) pk_nil))))))
            (pss_one (ps_if (pt_not (pt_val (pe_c c_law_told_right hr (by rfl) (pa_cons (pv 5) (pa_cons (pv 7) (pa_cons (pv 13) (pa_cons (pv 8) (pa_cons (pv 10) (pa_cons (pv 14) pa_nil))))))))) 
              (pss_one (ps_ret pe_bl)) pss_nil)))))))))))))))))
      (pss_one (ps_ret pe_bl)))), ?_⟩
    walk_at "go"
    refine ⟨a, ns, rfl, ha, ln, fun p c H1 s1 np P1 => ?_⟩
    walk_at "go"
    refine ⟨_, ns.length, rfl, .inl ⟨_, sq_l s1 ha, by rw [List.length_map]⟩, ?_⟩
    walk_at "go"
    obtain ⟨N, eN, N0, N2⟩ : ∃ N : Int, (1 + if (ns.length : Int) < 1 then (ns.length : Int) else 1) = N ∧ 1 ≤ N ∧ N ≤ 2 := ⟨_, rfl, by split <;> omega, by split <;> omega⟩
    rw [eN]
    refine ⟨by omega, by omega, for_range (lo := 0) (n := N.toNat) (fun i σ H' => ∃ (o2 o3 o4 o5 o6 o7 o8 o9 o10 o11 o12 o13 o14 : Option V), σ = [some (.ref a), some (.ref p), o2, o3, o4, o5, o6, o7, o8, o9, o10, o11, o12, o13, o14] ∧ Pen K H' p c (6000 * i))
      ⟨_, _, _, _, _, _, _, _, _, _, _, _, _, rfl, by simpa using P1⟩ ?_ ?_⟩
    · rintro i σ H2 hi ⟨o2, o3, o4, o5, o6, o7, o8, o9, o10, o11, o12, o13, o14, rfl, P2⟩
      have one : 1 ≤ sizeLine := by decide
      have i1 : (i : Int) ≤ 1 := by omega
      walk_at "go"
      refine ⟨by show 3 ≤ sizeLine; decide, fun q1 n1 => kNew n1 fun H3 s3 h3 => ?_⟩
      refine ⟨p, c, _, 6000 * i, rfl, by omega, P2.same s3, .inl ⟨q1, _, rfl, sq_of h3, by simp, by simp, fun v hv H4 d4 => ?_⟩⟩
      obtain ⟨m, rfl, m4⟩ : ∃ m : Nat, v = .int m ∧ m ≤ 4 := by
        simp only [List.mem_cons, List.not_mem_nil, or_false] at hv
        rcases hv with rfl | rfl | rfl
        · exact ⟨1, rfl, by decide⟩
        · exact ⟨2, rfl, by decide⟩
        · exact ⟨4, rfl, by decide⟩
      clear h3 hv
      walk_at "go"
      refine ⟨p, c, m, 6000 * i + 1, rfl, m4, by omega, d4.2, fun u ap aw q ps wd us xs H5 d5 hu5 hap Wp haw Ww lps lwd B lx => ?_⟩
      have okx : ∀ z ∈ xs, PlainOk z := B.ok
      refine ⟨u, _, rfl, hu5, rfl, ?_⟩
      refine ⟨_, _, rfl, ?_⟩
      refine ⟨_, _, rfl, ?_⟩
      refine ⟨_, _, rfl, ?_⟩
      refine ⟨rfl, ?_⟩
      walk_at "go"
      refine ⟨q, us, xs, rfl, B.at_, B.hd, B.nd, by omega, okx, fun hs wb H6 s6 B6 => ?_⟩
      walk_at "go"
      refine ⟨q, us, xs, rfl, s6 _ _ B.at_, B.hd.same s6, by omega, fun sg nss Ts H7 s7 nsg Bg lns hsg lT segT => ?_⟩
      have s57 := s6.trans s7
      have P7 := d5.2.same s57
      walk_at "go"
      refine ⟨p, c, ap, aw, ps, wd, _, rfl, by omega, P7, s57 _ _ hap, Wp.same s57, s57 _ _ haw, Ww.same s57, lps, lwd, fun r x H8 d8 hrow okc => ?_⟩
      have R8 : Round K H8 q sg hs r us wb xs x nss Ts := ⟨d8.o P7 (s57 _ _ B.at_) (fun kvs z => by cases z), d8.ds P7 (B.hd.same s57), (B6.same s7).drew d8 P7, hrow, d8.o P7 hsg (fun kvs z => by cases z), fun j T e => by obtain ⟨z, h1, h2⟩ := segT j T e; exact ⟨z, h1, d8.o P7 h2 (fun kvs z => by cases z)⟩⟩
      have hap8 := d8.o P7 (s57 _ _ hap) (fun kvs z => by cases z)
      obtain ⟨x0, xr, ex⟩ : ∃ x0 xr, x = x0 :: xr := List.exists_cons_of_ne_nil fun z => by (have := okc.1; rw [z] at this; cases this)
      have xne : x ≠ [] := by rw [ex]; exact List.cons_ne_nil _ _
      have x20 : x.length ≤ 20 := by have := okc.2.1; omega
      have lh := heads_len xs
      walk_at "go"
      refine ⟨by show 2 ≤ sizeLine; decide, fun t nt => kNew nt fun H9 s9 ht => ?_⟩
      walk_at "go"
      refine ⟨q, t, false, us, xs, 0, last30, rfl, (R8.same s9).at_, (R8.same s9).hd, by omega, st_of ht, fun h1 H10 s10 nh1 hh1 => ?_⟩
      walk_at "go"
      refine (fun e1 ne1 => kNew ne1 fun H11 s11 he1 => ?_)
      have s811 := (s9.trans s10).trans s11
      have R11 := R8.same s811
      refine ⟨q, h1, e1, hold false 0 last30, us, xs, heads xs, rfl, R11.at_, R11.hd, by omega, okx, s11 _ _ hh1, he1, by omega, heads_nams, fun q1 rs1 H12 s12 nq1 tab1 rel1 => ?_⟩
      walk_at "go"
      refine ⟨q1, r, rs1, heads xs, x, rfl, tab1, by omega, (R11.same s12).row, xne, x20, fun y1 ys1 H13 s13 ny1 hy1 asc1 m1 => ?_⟩
      have s813 := (s811.trans s12).trans s13
      have ly : ys1.length ≤ 5 := by
        have z := nd_le asc1.nodup (m := x0 :: heads xs) fun z hz => by
          have hz := (m1 z).mp hz
          refine ReachC.last (T := RelT rs1) (U := fun z => z ∈ x0 :: heads xs) (fun p n z ⟨r0, hr0, _, hz⟩ => List.mem_cons_of_mem _ (tab1.sub r0 hr0 z hz)) x z (fun p r e => ?_) hz
          rw [ex] at e
          cases e
          exact List.mem_cons_self
        rw [List.length_cons] at z
        omega
      have P13 := d8.2.same s813
      walk_at "go"
      refine ⟨one, fun l1 nl1 => kNew nl1 fun H14 s14 hl1 => ?_⟩
      refine ⟨ap, l1, _, _, rfl, rfl, (s813.trans s14) _ _ hap8, hl1, sz_of (by rw [List.length_map]; show _ + 1 ≤ _; omega), fun l2 nl2 => kNew nl2 fun H15 s15 hl2 => ?_⟩
      refine ⟨p, c, _, 6000 * i + 1 + 900 + 20, rfl, by omega, (P13.same (s14.trans s15)).mono (by omega), .inl ⟨l2, _, rfl, sq_of hl2, by simp, by simp; omega, fun v hv H16 d16 => ?_⟩⟩
      obtain ⟨z, rfl⟩ : ∃ z, v = .str z := by
        rcases List.mem_append.mp hv with hv | hv
        · obtain ⟨z, _, rfl⟩ := List.mem_map.mp hv
          exact ⟨z, rfl⟩
        · exact ⟨_, List.mem_singleton.mp hv⟩
      have P15 := P13.same (s14.trans s15)
      have R16 := (R8.same (s813.trans (s14.trans s15))).drew d16 P15
      have hy16 := d16.o P15 ((s14.trans s15) _ _ hy1) (fun kvs z => by cases z)
      clear hl1 hl2 hv
      walk_at "go"
      refine ⟨one, fun l3 nl3 => kNew nl3 fun H17 s17 hl3 => ?_⟩
      refine ⟨y1, l3, _, _, rfl, rfl, s17 _ _ hy16, hl3, sz_of (by rw [List.length_map]; show _ + 1 ≤ _; omega), fun l4 nl4 => kNew nl4 fun H18 s18 hl4 => ?_⟩
      refine ⟨p, c, _, 6000 * i + 922, rfl, by omega, (d16.2.same (s17.trans s18)).mono (by omega), .inl ⟨l4, _, rfl, sq_of hl4, by simp, by simp; omega, fun v hv H19 d19 => ?_⟩⟩
      obtain ⟨who, rfl⟩ : ∃ z, v = .str z := by
        rcases List.mem_append.mp hv with hv | hv
        · obtain ⟨z, _, rfl⟩ := List.mem_map.mp hv
          exact ⟨z, rfl⟩
        · exact ⟨_, List.mem_singleton.mp hv⟩
      have R19 := (R16.same (s17.trans s18)).drew d19 (d16.2.same (s17.trans s18))
      have P19 : Pen K H19 p c (6000 * i + 930) := d19.2.mono (by omega)
      clear hl3 hl4 hv
      have lT9 : Ts.length ≤ 9 := by
        have z := begins_len Bg
        rw [lT]
        unfold segs
        rw [List.length_zip]
        omega
      walk_at "go"
      refine ⟨_, Ts.length, rfl, .inl ⟨_, sq_of R19.sg_, by rw [List.length_map]⟩, ?_⟩
      walk_at "go"
      refine ⟨by omega, by omega, for_range (lo := 0) (n := Ts.length) (fun i1 σ H' => ∃ (o11 o12 o13 o14 : Option V), σ = [some (.ref a), some (.ref p), some (.int (0 + (i : Int))), some (.ref ap), some (.ref aw), some (.ref q), some (.ref hs), some (.ref sg), some (.ref r), some (.ref y1), some (.str who), o11, o12, o13, o14] ∧ Drew K H19 p c (6000 * i + 930 + 558 * i1) H')
        ⟨_, _, _, _, rfl, But.refl _ _, by simpa using P19⟩ ?_ ?_⟩
      · rintro i1 σ H20 hi1 ⟨o11, o12, o13, o14, rfl, d20⟩
        walk_at "go"
        have R20 := R19.drew d20 P19
        refine ⟨_, Ts.length, rfl, .inl ⟨_, sq_of R20.sg_, by rw [List.length_map]⟩, ?_⟩
        walk_at "go"
        refine ⟨⟨by omega, by omega, by omega, by omega⟩, for_range (lo := 0 + (i1 : Int)) (n := ((Ts.length : Int) - (0 + (i1 : Int))).toNat) (fun k σ H' => ∃ (o12 o13 o14 : Option V), σ = [some (.ref a), some (.ref p), some (.int (0 + (i : Int))), some (.ref ap), some (.ref aw), some (.ref q), some (.ref hs), some (.ref sg), some (.ref r), some (.ref y1), some (.str who), some (.int (0 + (i1 : Int))), o12, o13, o14] ∧ Drew K H19 p c (6000 * i + 930 + 558 * i1 + 62 * k) H')
          ⟨_, _, _, rfl, by simpa using d20⟩ ?_ ?_⟩
        · rintro k σ H21 hk ⟨o12, o13, o14, rfl, d21⟩
          have hj : i1 + k < Ts.length := by omega
          have R21 := R19.drew d21 P19
          obtain ⟨T1, hT1⟩ : ∃ T1, Ts[i1]? = some T1 := ⟨_, List.getElem?_eq_getElem hi1⟩
          obtain ⟨T2, hT2⟩ : ∃ T2, Ts[i1 + k]? = some T2 := ⟨_, List.getElem?_eq_getElem hj⟩
          obtain ⟨s1, hs1, hx1⟩ := R21.seg i1 T1 hT1
          obtain ⟨s2, hs2, hx2⟩ := R21.seg (i1 + k) T2 hT2
          obtain ⟨g11, g12, _, _⟩ := seg_gap Bg hs1
          obtain ⟨g21, g22, _, _⟩ := seg_gap Bg hs2
          have g3 := seg_ord Bg hs1 hs2 (Nat.le_add_right i1 k)
          have at1 : (Ts.map V.ref)[(0 + (i1 : Int)).toNat]? = some (.ref T1) := by rw [show (0 + (i1 : Int)).toNat = i1 by omega, List.getElem?_map, hT1]; rfl
          have at2 : (Ts.map V.ref)[(0 + (i1 : Int) + (k : Int)).toNat]? = some (.ref T2) := by rw [show (0 + (i1 : Int) + (k : Int)).toNat = i1 + k by omega, List.getElem?_map, hT2]; rfl
          have z1 : (0 : Int) ≤ 0 + (i1 : Int) := by omega
          have z2 : (0 : Int) ≤ 0 + (i1 : Int) + (k : Int) := by omega
          have k9 : (k : Int) ≤ 9 := by omega
          have i19 : (i1 : Int) ≤ 8 := by omega
          walk_at "go"
          refine ⟨sg, _, _, _, rfl, rfl, sq_of R21.sg_, at_nat z1 at1, ?_⟩
          walk_at "go"
          refine ⟨T1, _, _, _, rfl, rfl, st_of hx1, rfl, ?_⟩
          walk_at "go"
          refine ⟨sg, _, _, _, rfl, rfl, sq_of R21.sg_, at_nat z2 at2, ?_⟩
          walk_at "go"
          refine ⟨T2, _, _, _, rfl, rfl, st_of hx2, rfl, ?_⟩
          walk_at "go"
          refine ⟨by show 2 ≤ sizeLine; decide, fun sp nsp => kNew nsp fun H22 s22 hsp => ?_⟩
          have R22 := R21.same s22
          walk_at "go"
          refine ⟨hs, r, sp, wb, xs, x, who, s1.1, s2.2, rfl, R22.bk, by omega, okx, R22.row, xne, x20, st_of hsp, by omega, fun v pp H23 s23 hd told => ?_⟩
          have R23 := R22.same s23
          walk_at "go"
          refine ⟨q, sg, sp, r, s1.1, s2.2, who, v, us, xs, x, nss, Ts, pp, rfl, R23.at_, R23.hd, by omega, okx, st_of (s23 _ _ hsp), R23.row, xne, x20, Bg, lns, R23.sg_, lT, R23.seg, hd, told, fun H24 s24 => ?_⟩
          have s2124 := (s22.trans s23).trans s24
          have R24 := R23.same s24
          have P24 := d21.2.same s2124
          walk_at "go"
          refine ⟨sg, _, _, _, rfl, rfl, sq_of R24.sg_, at_nat z1 at1, ?_⟩
          walk_at "go"
          refine ⟨p, c, T1, s1.1, s1.2, _, rfl, by omega, P24, st_of (s2124 _ _ hx1), g11, fun v1 H25 d25 hv1 hv1' => ?_⟩
          walk_at "go"
          have P25 := d25.2
          have R25 := R24.drew d25 P24
          have hsp24 := (s23.trans s24) _ _ hsp
          obtain ⟨s2', hs2', hx25⟩ := R25.seg (i1 + k) T2 hT2
          obtain rfl : s2' = s2 := Option.some.inj (hs2'.symm.trans hs2)
          refine ⟨sg, _, _, _, rfl, rfl, sq_of R25.sg_, at_nat z2 at2, ?_⟩
          walk_at "go"
          refine ⟨T2, _, _, _, rfl, rfl, st_of hx25, rfl, ?_⟩
          walk_at "go"
          refine ⟨by show 2 ≤ sizeLine; decide, fun t2 nt2 => kNew nt2 fun H26 s26 ht2 => ?_⟩
          walk_at "go"
          refine ⟨t2, _, _, _, rfl, rfl, st_of ht2, rfl, ?_⟩
          walk_at "go"
          refine ⟨t2, _, _, _, rfl, rfl, st_of ht2, rfl, ?_⟩
          walk_at "go"
          have P26 := P25.same s26
          refine ⟨sg, _, _, _, rfl, rfl, sq_of (R25.same s26).sg_, at_nat z2 at2, ?_⟩
          walk_at "go"
          refine ⟨p, c, T2, s2'.1, s2'.2, _, rfl, by omega, P26, st_of (s26 _ _ hx25), g21, fun v2 H27 d27 hv2 hv2' => ?_⟩
          walk_at "go"
          obtain ⟨e2, ee2, le2, le2'⟩ : ∃ e2 : Int, (if v2 > v1 then v2 else v1) = e2 ∧ v1 ≤ e2 ∧ v2 ≤ e2 := ⟨_, rfl, by split <;> omega, by split <;> omega⟩
          rw [ee2]
          refine ⟨by show 2 ≤ sizeLine; decide, fun t3 nt3 => kNew nt3 fun H28 s28 ht3 => ?_⟩
          have R28 := ((R25.same s26).drew d27 P26).same s28
          walk_at "go"
          refine ⟨rfl, hs, r, t3, wb, xs, x, who, v1, e2, rfl, R28.bk, by omega, okx, R28.row, xne, x20, st_of ht3, by omega, fun v pp2 H29 s29 hd2 told2 => ?_⟩
          have R29 := R28.same s29
          walk_at "go"
          refine ⟨q, sg, t3, r, v1, e2, who, v, us, xs, x, nss, Ts, pp2, rfl, R29.at_, R29.hd, by omega, okx, st_of (s29 _ _ ht3), R29.row, xne, x20, Bg, lns, R29.sg_, lT, R29.seg, hd2, told2, fun H30 s30 => ?_⟩
          walk_at "go"
          exact ((d21.then s2124).trans ((d25.then s26).trans ((d27.then s28).then (s29.trans s30)))).mono (by push_cast; omega)
        · rintro σ H21 ⟨o12, o13, o14, rfl, d21⟩
          exact ⟨_, _, _, _, rfl, d21.mono (by push_cast; omega)⟩
      · rintro σ H20 ⟨o11, o12, o13, o14, rfl, d20⟩
        exact ⟨_, _, _, _, _, _, _, _, _, _, _, _, _, rfl, d20.2.mono (by push_cast; omega)⟩
    · rintro σ H2 ⟨o2, o3, o4, o5, o6, o7, o8, o9, o10, o11, o12, o13, o14, rfl, P2⟩
      walk_at "go"
      exact k H2
end
end NC
-- NcTop
set_option Elab.async false
set_option linter.all false
set_option maxRecDepth 100000
set_option maxHeartbeats 4000000
/-! The end. -/
open PySem PySem.W PySem.Calls PyProof.Rows
theorem NC.law_end (P : Program) (w : World) (K : PySem.W.Frag) (mg : PySem.Str → Option Value) (fa : Addr) (h : Heap) (hP : NC.PrgOk P) (KX : K.In h) (c : NC.obsX K = NC.valX) (G : h.Ns mainGlobals mg) (hmg : mg ("law" : PySem.Str) = some (.ref fa)) : 
      ∃ (K : PySem.W.Frag) (fd : FuncData) (sp : L2.Sp), K.In h ∧ (∀ (s : Shared) (u : Value), BindsTo s fd ⟨[u], []⟩ [("_law_script", u)]) ∧
        (∀ (H : L2.Hp) (a : Addr) (ns : List Int), ns.length ≤ 63 → L2.Only H → L2.SqL K H a (ns.map L2.V.int) → sp [.ref a] H (fun v _ => v = .bl true) fun _ _ _ => False) ∧
        ∀ base : Heap, K.In base → base.Ns mainGlobals mg → L2.FnOk P w K mg base L2.CX0 9 fa fd ["_law_script"] sp := by
    have T : NC.Txt K mg := ⟨⟨h, KX, G⟩, c⟩
    obtain ⟨fd0, F0, D0⟩ := NC.cal_law (P := P) (w := w) (base := h) T hP
    have e := hmg.symm.trans T.g_law
    cases e
    have b := L2.FunD.bindsA (ps := ["_law_script"]) D0 fun _ _ _ _ _ _ us hl => match us, hl with | [_], _ => rfl
    refine ⟨K, fd0, NC.spLaw K, KX, fun s v => b s [v] rfl, fun H a ns hl _ hS => ⟨a, ns, rfl, hS, hl, fun _ => rfl⟩, fun base _ _ => ?_⟩
    obtain ⟨fd1, F1, D1⟩ := NC.cal_law (P := P) (w := w) (base := base) T hP
    have e1 : fd0 = fd1 := by
      obtain ⟨_, _, _, _, _, _, _, _, _, _, e0, l0, _⟩ := D0.ex
      obtain ⟨_, _, _, _, _, _, _, _, _, _, e1, l1, _⟩ := D1.ex
      rw [l0] at l1
      injection l1 with l1
      injection l1 with _ _ l1 _
      injection l1
    rw [e1]
    exact F1
theorem NC.row_holds (said : NC.R.wellSaid = true) : NC.R.Holds := by
  refine HandSHeadRun.head_any (r := OpenLaw.row PySem.Challenge.rw_namechains_k20_whole_papers_for_stretche) (q := view (OpenLaw.row PySem.Challenge.rw_namechains_k20_whole_papers_for_stretche).prog [87]) (H := NC.hookX) (ob := NC.ob) (M := 100000) (loose := NC.names) (d := HandSHeadRun.topDef (OpenLaw.row PySem.Challenge.rw_namechains_k20_whole_papers_for_stretche).prog 87) (kwd := []) NC.ob_eq
    (by kernel_rfl) (fun s => by kernel_rfl) NC.run (by kernel_rfl) (by kernel_rfl) (by kernel_rfl) (by rfl) (by first | assumption | decide +kernel) (by decide +kernel) ⟨rfl, rfl, rfl, rfl, rfl, NC.tabs_whole⟩ ?hw ?hc
  case hw => w_witness2
  case hc =>
    refine L2.walk_ofE (l := PySem.Challenge.rw_namechains_k20_whole_papers_for_stretche) (n := 63) (k := 9) (x := "_law_script") (CX := L2.CX0) rfl (by decide) (by kernel_rfl) ⟨rfl, by decide, by decide⟩ ?F (fun _ _ _ _ z => z)
    intro w mg fa h Y G hmg0
    obtain ⟨K, KX, c⟩ := Y
    have hmg : mg ("law" : PySem.Str) = some (.ref fa) := by
      have e : (HandSHeadRun.topDef (OpenLaw.row PySem.Challenge.rw_namechains_k20_whole_papers_for_stretche).prog 87).name = ("law" : PySem.Str) := by kernel_rfl
      rw [← e]
      exact hmg0
    have hP : NC.PrgOk (PySem.Challenge.rw_namechains_k20_whole_papers_for_stretche).prog := ⟨by kernel_rfl, by kernel_rfl⟩
    exact NC.law_end _ w K mg fa h hP KX c G hmg

theorem PySem.Challenge.cw_namechains_k20_whole_papers_for_stretche_holds : PySem.Challenge.rw_namechains_k20_whole_papers_for_stretche.Holds := by
  w_on; o_law
  exact NC.row_holds (by assumption)
